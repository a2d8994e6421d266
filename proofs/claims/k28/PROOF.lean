import PyProof.Rows.All
import Wide.All
import OpenK.AllK
import Wide.FinOn
import KE.KStateDown
import Lean
import HandS.ForMost
import HandS.ForExc
import HandS.SetKeys
import HandS.Lambda
import KE.KeyNested
import PyProof.DictMoreH
import HandS.Evl
import HandS.Walk
import HandS.CallSlots
import HandS.Defaults
import HandS.TryMany
import HandS.More
import HandS.TupAny
import HandS.TupMul
import HandS.IsInst
import HandS.Style
import HandS.Zip
import KE.GoesEnum
import HandS.DictComp
import HandS.DictTup
import KE.KDictWalk
import HandS.SortInts
import HandS.HeadEnd
import PyProof.ReprRoads
import HandS.MakeKw
import HandS.Deep
import HandS.HeadHook2
import HandS.ExcField
import HandS.ExcIs
import HandS.ExcInit
import PyProof.ExcBaseAll.ValueError
import PyProof.ExcBaseAll.LookupError
import KE.KExcSuper
import HandS.ExcSuper
import HandS.Nested
import HandS.Conv
import HandS.TupLen
import HandS.EndTab
import HandS.HeadHook4
import HandS.Head0
import HandS.Head1
import HandS.Head2
import HandS.HeadHook1
import HandS.HeadHook3
import PySem.Challenge.RW_pagesagain_k28_whole_lengths_by_modulus
set_option Elab.async false
set_option linter.all false
set_option maxRecDepth 100000
set_option maxHeartbeats 1000000
/-! DL0: dicts whose keys are ints and tuples of such, of any depth (to 8). -/
namespace DL
open PySem L2 PySem.Spec PyProof.Rows
mutual
def nkNum : NestedKey → Bool
  | .num _ => true
  | .tup ks => nkNums ks
  | .none => true
  | .text _ => false
def nkNums : List NestedKey → Bool
  | [] => true
  | k :: ks => nkNum k && nkNums ks
end
mutual
theorem nk_hash (w w' : World) : ∀ k : NestedKey, nkNum k = true → NestedKey.hash w k = NestedKey.hash w' k
  | .num _, _ => by simp [NestedKey.hash]
  | .tup ks, h => by
    rw [NestedKey.hash, NestedKey.hash, nk_hashes w w' ks (by simpa [nkNum] using h)]
  | .none, _ => by simp [NestedKey.hash]
  | .text _, h => by simp [nkNum] at h
theorem nk_hashes (w w' : World) : ∀ ks : List NestedKey, nkNums ks = true → NestedKey.hashes w ks = NestedKey.hashes w' ks
  | [], _ => by simp [NestedKey.hashes]
  | k :: ks, h => by
    rw [nkNums, Bool.and_eq_true] at h
    rw [NestedKey.hashes, NestedKey.hashes, nk_hash w w' k h.1, nk_hashes w w' ks h.2]
end
mutual
/-- v is the key k -/
inductive KeyV (H : Hp) : NestedKey → V → Prop
  | none : KeyV H .none .non
  | num (i : Int) : KeyV H (.num i) (.int i)
  | tup {b : Addr} {vs : List V} {ks : List NestedKey} : H b = some (.tup vs) → KeyVs H ks vs → KeyV H (.tup ks) (.ref b)
inductive KeyVs (H : Hp) : List NestedKey → List V → Prop
  | nil : KeyVs H [] []
  | cons {k : NestedKey} {v : V} {ks : List NestedKey} {vs : List V} : KeyV H k v → KeyVs H ks vs → KeyVs H (k :: ks) (v :: vs)
end
section
variable {P : Program} {w : World} {H H' : Hp} {h : Heap}
mutual
theorem keyV_num : ∀ {k : NestedKey} {v : V}, KeyV H k v → nkNum k = true
  | .num _, _, .num _ => by simp [nkNum]
  | .none, _, .none => by simp [nkNum]
  | .tup ks, _, .tup _ t => by rw [nkNum]; exact keyVs_num t
theorem keyVs_num : ∀ {k : List NestedKey} {v : List V}, KeyVs H k v → nkNums k = true
  | [], _, .nil => by simp [nkNums]
  | _ :: _, _, .cons r t => by rw [nkNums, keyV_num r, keyVs_num t]; rfl
end
mutual
theorem keyV_is (ok : HOk P w H h) : ∀ {k : NestedKey} {v : V} {u : Value}, KeyV H k v → RelV v u → NestedIs h k u
  | .none, _, u, .none, r => by
    obtain rfl : u = Value.none := r
    exact .none
  | .num i, _, u, .num _, r => by
    obtain ⟨t, e⟩ := (show ∃ t, u = Value.int i t from r)
    subst e
    exact .int i t
  | .tup ks, _, u, .tup (b := b) (vs := vs) hb t, r => by
    obtain rfl : u = Value.ref b := r
    obtain ⟨_, its, r2, o, h1, h2, n, h3⟩ := (show ObjOk P w H h b (.tup vs) from ok b _ hb)
    exact .tup h1 h2 h3 (by simpa using keyVs_is ok t r2)
theorem keyVs_is (ok : HOk P w H h) : ∀ {k : List NestedKey} {v : List V} {u : List Value}, KeyVs H k v → Vals v u → NestedAll h k u
  | [], _, _, .nil, r => by cases r; exact .nil
  | _ :: _, _, _, .cons q t, r => by
    cases r with
    | cons r1 r2 => exact .cons (keyV_is ok q r1) (keyVs_is ok t r2)
end
mutual
theorem keyV_mono (e : ∀ b vs, H b = some (.tup vs) → H' b = some (.tup vs)) : ∀ {k : NestedKey} {v : V}, KeyV H k v → KeyV H' k v
  | .num _, _, .num i => .num i
  | .none, _, .none => .none
  | .tup _, _, .tup hb t => .tup (e _ _ hb) (keyVs_mono e t)
theorem keyVs_mono (e : ∀ b vs, H b = some (.tup vs) → H' b = some (.tup vs)) : ∀ {k : List NestedKey} {v : List V}, KeyVs H k v → KeyVs H' k v
  | [], _, .nil => .nil
  | _ :: _, _, .cons q t => .cons (keyV_mono e q) (keyVs_mono e t)
end
end
/-! ### the object -/
abbrev NW := List (NestedKey × Addr × V)
abbrev NX := List (NestedKey × Addr × Value)
abbrev KN : NW → NX → Prop := Paired fun p q => p.1 = q.1 ∧ p.2.1 = q.2.1 ∧ RelV p.2.2 q.2.2
def valN (ws : NW) (k : NestedKey) : Option V := (ws.find? fun p => decide (p.1 = k)).map (·.2.2)
def repN (k : NestedKey) (v : V) (p : NestedKey × Addr × V) : NestedKey × Addr × V := if p.1 = k then (p.1, p.2.1, v) else p
def putN (ws : NW) (k : NestedKey) (b : Addr) (v : V) : NW := if (valN ws k).isSome = true then ws.map (repN k v) else ws ++ [(k, b, v)]
def NdOk (a : Addr) (ws : NW) (h : Heap) : Prop :=
  (a == sysModules) = false ∧ ws.length ≤ sizeLine ∧ ∃ xs : NX, KN ws xs ∧ (xs.map (·.1)).Nodup ∧ ∃ o es ep, h.get? a = some o ∧ o.ExactDict ∧ o.data = .dict es ep ∧ ∀ (P : Program) (w : World), es.toList = xs.map (entryOfKey (nestedKind P w))
def ND (a : Addr) (ws : NW) : HO := .ext (NdOk a ws)
theorem KN.val {ws : NW} {xs : NX} (r : KN ws xs) (k : NestedKey) : RelO (valN ws k) ((atKey xs k).map (·.2)) := by
  induction r with
  | nil => exact True.intro
  | @cons p q ps qs h t ih =>
    obtain ⟨h1, _, h2⟩ := h
    by_cases e : p.1 = k
    · have e' : q.1 = k := h1.symm.trans e
      have b : atKey (q :: qs) k = some q.2 := by simp [atKey, List.find?_cons, e']
      have b2 : valN (p :: ps) k = some p.2.2 := by simp [valN, List.find?_cons, e]
      rw [b2, b]; exact h2
    · have e' : ¬ q.1 = k := fun z => e (h1.trans z)
      have b : atKey (q :: qs) k = atKey qs k := by simp [atKey, List.find?_cons, e']
      have b2 : valN (p :: ps) k = valN ps k := by simp [valN, List.find?_cons, e]
      rw [b2, b]; exact ih
theorem KN.repl {ws : NW} {xs : NX} (r : KN ws xs) (k : NestedKey) {y : V} {u : Value} (ry : RelV y u) : KN (ws.map (repN k y)) (xs.map (putAt k u)) := by
  induction r with
  | nil => exact .nil
  | @cons p q ps qs h t ih =>
    rw [List.map_cons, List.map_cons]
    refine .cons ?_ ih
    obtain ⟨h1, h2, h3⟩ := h
    unfold repN putAt
    by_cases e : p.1 = k
    · rw [if_pos e, if_pos (h1.symm.trans e)]; exact ⟨h1, h2, ry⟩
    · rw [if_neg e, if_neg (fun z => e (h1.trans z))]; exact ⟨h1, h2, h3⟩
theorem KN.put {ws : NW} {xs : NX} (r : KN ws xs) (k : NestedKey) {b : Addr} {y : V} {u : Value} (ry : RelV y u) : KN (putN ws k b y) (storedH xs k b u) := by
  have e : (valN ws k).isSome = (atKey xs k).isSome := by
    rw [(r.val k).isSome_eq, Option.isSome_map]
  unfold putN storedH
  rw [e]
  by_cases q : (atKey xs k).isSome = true
  · rw [if_pos q, if_pos q]; exact r.repl k ry
  · rw [if_neg q, if_neg q]; exact Paired.snoc r ⟨rfl, rfl, ry⟩
theorem KN.keys {ws : NW} {xs : NX} (r : KN ws xs) : ws.map (·.1) = xs.map (·.1) := by
  induction r with
  | nil => rfl
  | cons h t ih => rw [List.map_cons, List.map_cons, ih, h.1]
theorem length_putN (ws : NW) (k : NestedKey) (b : Addr) (v : V) : (putN ws k b v).length ≤ ws.length + 1 := by
  unfold putN
  split
  · simp
  · simp
/-- its keys -/
def NKeys (H : Hp) (ws : NW) : Prop := ∀ p ∈ ws, KeyV H p.1 (.ref p.2.1) ∧ p.1.depth ≤ 8
theorem NKeys.put {H : Hp} {ws : NW} {k : NestedKey} {b : Addr} {v : V} (n : NKeys H ws) (hk : KeyV H k (.ref b)) (hd : k.depth ≤ 8) : NKeys H (putN ws k b v) := by
  unfold putN
  split
  · intro p hp
    obtain ⟨q, hq, rfl⟩ := List.mem_map.mp hp
    unfold repN
    split
    · exact n q hq
    · exact n q hq
  · intro p hp
    rcases List.mem_append.mp hp with hp | hp
    · exact n p hp
    · rw [List.mem_singleton.mp hp]; exact ⟨hk, hd⟩
theorem NKeys.mono {H H' : Hp} {ws : NW} (e : ∀ b vs, H b = some (.tup vs) → H' b = some (.tup vs)) (n : NKeys H ws) : NKeys H' ws := fun p hp => ⟨keyV_mono e (n p hp).1, (n p hp).2⟩
section
variable {P : Program} {w : World} {H : Hp} {h : Heap} {a : Addr} {ws : NW}
theorem ndOk_keep {h' : Heap} (x : NdOk a ws h) (k : ∀ o, h.get? a = some o → h'.get? a = some o) : NdOk a ws h' := by
  obtain ⟨h1, h2, xs, h3, h4, o, es, ep, h5, h6⟩ := x
  exact ⟨h1, h2, xs, h3, h4, o, es, ep, k _ h5, h6⟩
theorem nd_obj (x : NdOk a ws h) : ObjOk P w H h a (ND a ws) := by
  have x' := x
  obtain ⟨_, _, _, _, _, o, _, _, h5, _⟩ := x'
  exact ⟨x, ⟨o, h5⟩, fun h1 h2 p k => ndOk_keep p k⟩
theorem nd_rd (ok : HOk P w H h) (e : Rd H a (ND a ws)) (hk : NKeys H ws) : (a == sysModules) = false ∧ ws.length ≤ sizeLine ∧ ∃ xs, KN ws xs ∧ h.DictOfH (nestedKind P w) a xs := by
  obtain ⟨⟨h1, h2, xs, h3, h4, o, es, ep, h5, h6, h7, h8⟩, _, _⟩ := (show ObjOk P w H h a (ND a ws) from rd_of ok e)
  refine ⟨h1, h2, xs, h3, o, es, ep, h5, h6, h7, h8 P w, ?_, h4⟩
  have all : ∀ {l : NW} {m : NX}, KN l m → NKeys H l → ∀ x ∈ m, (nestedKind P w).is h x.1 x.2.1 := by
    intro l m q
    induction q with
    | nil => intro _ x hx; exact nomatch hx
    | @cons p q ps qs hq t ih =>
      intro n x hx
      rcases List.mem_cons.mp hx with e | hx
      · subst e
        obtain ⟨n1, n2⟩ := n p (by simp)
        refine ⟨?_, ?_⟩
        · rw [← hq.1, ← hq.2.1]; exact keyV_is ok n1 rfl
        · rw [← hq.1]; exact n2
      · exact ih (fun y hy => n y (by simp [hy])) x hx
  exact all h3 hk
theorem nd_of {xs : NX} (hd : (a == sysModules) = false) (hl : ws.length ≤ sizeLine) (r : KN ws xs) (hn : ∀ p ∈ ws, nkNum p.1 = true) (x : h.DictOfH (nestedKind P w) a xs) : NdOk a ws h := by
  obtain ⟨o, es, ep, h5, h6, h7, h8, _, h4⟩ := x
  refine ⟨hd, hl, xs, r, h4, o, es, ep, h5, h6, h7, fun P' w' => ?_⟩
  rw [h8]
  refine List.map_congr_left fun x hx => ?_
  have hm : x.1 ∈ ws.map (·.1) := by rw [r.keys]; exact List.mem_map.mpr ⟨x, hx, rfl⟩
  obtain ⟨p, hp, e⟩ := List.mem_map.mp hm
  have hn' : nkNum x.1 = true := by rw [← e]; exact hn p hp
  show (⟨NestedKey.hash w x.1, .ref x.2.1, x.2.2⟩ : DictEntry) = ⟨NestedKey.hash w' x.1, .ref x.2.1, x.2.2⟩
  rw [nk_hash w w' x.1 hn']
theorem nd_empty (h : Heap) (hb : sysModules < h.objs.size) : NdOk h.objs.size [] (h.push { cls := .type "dict", data := .dict #[] }) :=
  ⟨beq_eq_false_iff_ne.mpr (Ne.symm (Nat.ne_of_lt hb)), Nat.zero_le _, [], .nil, List.nodup_nil, _, #[], 0, Heap.get?_push_size _ rfl, ⟨rfl, rfl, rfl⟩, rfl, fun _ _ => rfl⟩
end
/-! ### what is asked of it -/
section
variable {X : Cx} {pins : List (Addr × Obj)} {σ : L2.St} {H : Hp} {s : Shared} {a b : Addr} {v : V} {u r : Value} {k : NestedKey} {ws : NW} {A : Around} {E : Value → Shared → Prop}
theorem nd_typeIs (I : Inv X pins σ H s) (e : Rd H a (ND a ws)) (hk : NKeys H ws) : s.TypeIs (.ref a) "dict" := by
  obtain ⟨_, _, xs, _, dd⟩ := nd_rd I.hok e hk
  exact dd.typeIs
theorem nd_getItem {Q : Value → Shared → Prop} (hu : A.units + 9 < cLine) (I : Inv X pins σ H s) (e : Rd H a (ND a ws)) (hk : NKeys H ws) (kk : KeyV H k (.ref b)) (kd : k.depth ≤ 8) (l : valN ws k = some v) (h : ∀ w' s', Inv X pins σ H s' → RelV v w' → Q w' s') :
    wpAny (model X.prog X.w) A (getItem (.ref a) (.ref b)) Q E s := by
  obtain ⟨hd, z, xs, rel, dd⟩ := nd_rd I.hok e hk
  obtain ⟨w', hw, rw'⟩ := RelO.some_of (v := v) (o := (atKey xs k).map (·.2)) (by rw [← l]; exact rel.val k)
  obtain ⟨p, hp, hp2⟩ := Option.map_eq_some_iff.mp hw
  refine wpAny_getItem_heap (knd := nestedKind X.prog X.w) (show A.units + 1 + 8 < cLine by omega) ⟨keyV_is I.hok kk rfl, kd⟩ dd hp ?_
  rw [hp2]
  exact h w' _ (I.tok _) rw'
theorem nd_in {Q : Value → Shared → Prop} (hu : A.units + 9 < cLine) (I : Inv X pins σ H s) (e : Rd H a (ND a ws)) (hk : NKeys H ws) (kk : KeyV H k (.ref b)) (kd : k.depth ≤ 8) (h : ∀ s', Inv X pins σ H s' → Q (.bool (valN ws k).isSome) s') :
    wpAny (model X.prog X.w) A (compareOp .In (.ref b) (.ref a)) Q E s := by
  obtain ⟨hd, z, xs, rel, dd⟩ := nd_rd I.hok e hk
  refine wpAny_in_heap (knd := nestedKind X.prog X.w) (show A.units + 1 + 8 < cLine by omega) ⟨keyV_is I.hok kk rfl, kd⟩ hd dd ?_
  have q := (rel.val k).isSome_eq
  rw [Option.isSome_map] at q
  rw [← q]
  exact h _ (I.tok _)
theorem nd_notIn {Q : Value → Shared → Prop} (hu : A.units + 9 < cLine) (I : Inv X pins σ H s) (e : Rd H a (ND a ws)) (hk : NKeys H ws) (kk : KeyV H k (.ref b)) (kd : k.depth ≤ 8) (h : ∀ s', Inv X pins σ H s' → Q (.bool (!(valN ws k).isSome)) s') :
    wpAny (model X.prog X.w) A (compareOp .NotIn (.ref b) (.ref a)) Q E s := by
  obtain ⟨hd, z, xs, rel, dd⟩ := nd_rd I.hok e hk
  refine wpAny_notIn_heap (knd := nestedKind X.prog X.w) (show A.units + 1 + 8 < cLine by omega) ⟨keyV_is I.hok kk rfl, kd⟩ hd dd ?_
  have q := (rel.val k).isSome_eq
  rw [Option.isSome_map] at q
  rw [← q]
  exact h _ (I.tok _)
theorem nd_write {xs : NX} {h' : Heap} {t' : Nat} (I : Inv X pins σ H s) (e : H a = some (ND a ws)) (hd : (a == sysModules) = false) (hk : NKeys H ws) (kk : KeyV H k (.ref b)) (kd : k.depth ≤ 8) (hl : ws.length < sizeLine) (rel : KN ws xs) (rv : RelV v r)
    (dd : h'.DictOfH (nestedKind X.prog X.w) a (storedH xs k b r)) (hs : Heap.SameBut a s.heap h') : Inv X pins σ (upd H a (ND a (putN ws k b v))) { s with heap := h', toks := t' } := by
  have dd' := dd
  obtain ⟨q, _, _, hq, _⟩ := dd'
  refine d_write I (by rw [e]; exact True.intro) hs ⟨q, hq⟩ (nd_obj (nd_of hd ?_ (rel.put k rv) (fun p hp => keyV_num ((hk.put kk kd) p hp).1) dd))
  have := length_putN ws k b v
  omega
theorem nd_setItem {Q : Unit → Shared → Prop} (hu : A.units + 9 < cLine) (I : Inv X pins σ H s) (e : H a = some (ND a ws)) (hk : NKeys H ws) (kk : KeyV H k (.ref b)) (kd : k.depth ≤ 8) (hl : ws.length < sizeLine) (rv : RelV v r) (h : ∀ s', Inv X pins σ (upd H a (ND a (putN ws k b v))) s' → Q () s') :
    wpAny (model X.prog X.w) A (setItem (.ref a) (.ref b) r) Q E s := by
  obtain ⟨hd, z, xs, rel, dd⟩ := nd_rd I.hok (.inl e) hk
  have hz : xs.length ≤ sizeLine := by rw [← Paired.length rel]; exact z
  exact wpAny_setItem_heap (knd := nestedKind X.prog X.w) (hsz := hz) (show A.units + 1 + 8 < cLine by omega) ⟨keyV_is I.hok kk rfl, kd⟩ dd fun h' dd' hs => h _ (nd_write I e hd hk kk kd hl rel rv dd' hs)
theorem nd_setd {Q : Value → Shared → Prop} (hu : A.units + 9 < cLine) (I : Inv X pins σ H s) (e : H a = some (ND a ws)) (hk : NKeys H ws) (kk : KeyV H k (.ref b)) (kd : k.depth ≤ 8) (hl : ws.length < sizeLine) (rv : RelV v r)
    (h1 : ∀ v', valN ws k = some v' → ∀ (w' : Value) (s' : Shared), Inv X pins σ H s' → RelV v' w' → Q w' s') (h2 : valN ws k = none → ∀ (s' : Shared), Inv X pins σ (upd H a (ND a (putN ws k b v))) s' → Q r s') :
    wpAny (model X.prog X.w) A (call (.builtin "dict.setdefault") [.ref a, .ref b, r]) Q E s := by
  obtain ⟨hd, z, xs, rel, dd⟩ := nd_rd I.hok (.inl e) hk
  have hz : xs.length ≤ sizeLine := by rw [← Paired.length rel]; exact z
  have q := rel.val k
  refine call_meetsIn PySem.F.slot_dict_setdefault dd.typeIs PySem.F.entry_dict_setdefault (PySem.F.args_dict_setdefault_3 _ _ _) (meetsH_dict_setdefault (nestedKind X.prog X.w) a b hd r) ⟨show A.units + 1 + 8 < cLine by omega, k, xs, ⟨keyV_is I.hok kk rfl, kd⟩, dd, hz, fun p hp => ?_, fun hn h' dd' hs => ?_⟩
  · rw [hp] at q
    cases q0 : valN ws k with
    | none => rw [q0] at q; exact (show False from q).elim
    | some v0 => rw [q0] at q; exact h1 v0 q0 _ _ (I.tok _) q
  · rw [hn] at q
    cases q0 : valN ws k with
    | some v0 => rw [q0] at q; exact (show False from q).elim
    | none => exact h2 q0 _ (nd_write I e hd hk kk kd hl rel rv dd' hs)
end
/-! ### tables of code objects -/
/-- the tables that lambdas are noted in: each with the name that its code objects bear -/
class Tbs where
  T : List (Addr × Str)
/-- a table, or a code object -/
def isTb (o : HO) : Prop := (∃ ps, o = .tbl ps) ∨ ∃ c q, o = LamX.CodeO c q
def dumO (q : Str) : Obj := { cls := .none, data := .fields #[.none, .str q 0] }
theorem push_fields {h : Heap} (hf : ∀ a x, h.get? a = some x → ∃ vs, x.data = .fields vs) (q : Str) : ∀ a x, (h.push (dumO q)).get? a = some x → ∃ vs, x.data = .fields vs := fun a x e => by
  by_cases z : a = h.objs.size
  · subst z
    rw [Heap.get?_push_size _ rfl] at e
    cases e
    exact ⟨_, rfl⟩
  · rw [Heap.get?_push_ne _ _ _ z] at e
    exact hf a x e
theorem heap_size : ∀ n : Nat, ∃ h : Heap, h.objs.size = n ∧ ∀ a x, h.get? a = some x → ∃ vs, x.data = .fields vs
  | 0 => ⟨⟨#[], {}⟩, rfl, fun a x e => by simp [Heap.get?] at e⟩
  | n + 1 => by
    obtain ⟨h, e, hf⟩ := heap_size n
    exact ⟨h.push (dumO ""), by rw [size_push', e], push_fields hf _⟩
theorem nd_ne_code {a c : Addr} {ws : NW} {q : Str} : ND a ws ≠ LamX.CodeO c q := fun z => by
  unfold ND LamX.CodeO at z
  injection z with z
  obtain ⟨h, e, hf⟩ := heap_size c
  have hc : (h.push (dumO q)).get? c = some (dumO q) := by rw [← e]; exact Heap.get?_push_size _ rfl
  have p : NdOk a ws (h.push (dumO q)) := by rw [z]; exact ⟨_, _, 0, hc, rfl, rfl⟩
  obtain ⟨_, _, _, _, _, o, es, ep, h1, _, h2, _⟩ := p
  obtain ⟨vs, h3⟩ := push_fields hf q a o h1
  rw [h2] at h3
  cases h3
section
variable {H H' : Hp} {P : Addr} {q : Str}
theorem tabS_off (t : LamX.TabS H P q) (e : ∀ b o, H b = some o → isTb o → H' b = some o) : LamX.TabS H' P q := by
  obtain ⟨ps, h1, h2, h3⟩ := t
  refine ⟨ps, e _ _ h1 (.inl ⟨_, rfl⟩), h2, fun pos cv hc => ?_⟩
  obtain ⟨c, e1, e2⟩ := h3 pos cv hc
  exact ⟨c, e1, e _ _ e2 (.inr ⟨_, _, rfl⟩)⟩
end
end DL
set_option Elab.async false
set_option linter.all false
set_option maxRecDepth 100000
set_option maxHeartbeats 1000000
/-! DL1: data-level layer, part 1: data, what represents it, the state relation, the lifts. -/
namespace DL
open PySem L2 Evl

inductive D where
  | none | bool (b : Bool) | int (i : Int) | str (s : Str)
  | list (xs : List D) | tuple (xs : List D)
  | dict (kvs : List (Key × D)) | dictT (kvs : List (List Key × D)) | dictN (kvs : List (NestedKey × D))
  | ob (C : Addr) (lay : List Str) (xs : List D)
  | rol (xs : List D)
  | exn (a dd C : Addr) (f : Str) (d : D)

mutual
/-- a key as data -/
def nkD : NestedKey → D
  | .none => .none
  | .num i => .int i
  | .text x => .str x
  | .tup ks => .tuple (nkDs ks)
def nkDs : List NestedKey → List D
  | [] => []
  | k :: ks => nkD k :: nkDs ks
end
/-- frozen data -/
inductive Rep (K : PySem.W.Frag) (F : Hp) : V → D → Prop
  | none : Rep K F .non .none
  | bool (b : Bool) : Rep K F (.bl b) (.bool b)
  | int (i : Int) : Rep K F (.int i) (.int i)
  | str (s : Str) : Rep K F (.str s) (.str s)
  | rol {a : Addr} {vs : List V} {ds : List D} : SqL K F a vs → vs.length = ds.length → (∀ (i : Nat) (v : V) (d : D), vs[i]? = some v → ds[i]? = some d → Rep K F v d) → Rep K F (.ref a) (.rol ds)
  | list {a : Addr} {vs : List V} {ds : List D} : F a = some (.lst vs) → vs.length = ds.length → (∀ (i : Nat) (v : V) (d : D), vs[i]? = some v → ds[i]? = some d → Rep K F v d) → Rep K F (.ref a) (.list ds)
  | tuple {a : Addr} {vs : List V} {ds : List D} : F a = some (.tup vs) → vs.length = ds.length → (∀ (i : Nat) (v : V) (d : D), vs[i]? = some v → ds[i]? = some d → Rep K F v d) → Rep K F (.ref a) (.tuple ds)
  | dict {a : Addr} {kvs : List (Key × V)} {ds : List (Key × D)} : F a = some (.dK kvs) → kvs.length = ds.length → (∀ (i : Nat) (k : Key) (v : V) (l : Key) (d : D), kvs[i]? = some (k, v) → ds[i]? = some (l, d) → k = l) → (∀ (i : Nat) (k : Key) (v : V) (l : Key) (d : D), kvs[i]? = some (k, v) → ds[i]? = some (l, d) → Rep K F v d) → Rep K F (.ref a) (.dict ds)
  | dictT {a : Addr} {kvs : List (List Key × V)} {ds : List (List Key × D)} : F a = some (.dT kvs) → kvs.length = ds.length → (∀ (i : Nat) (k : List Key) (v : V) (l : List Key) (d : D), kvs[i]? = some (k, v) → ds[i]? = some (l, d) → k = l) → (∀ (i : Nat) (k : List Key) (v : V) (l : List Key) (d : D), kvs[i]? = some (k, v) → ds[i]? = some (l, d) → Rep K F v d) → Rep K F (.ref a) (.dictT ds)
  | dictN {a : Addr} {ws : NW} {ds : List (NestedKey × D)} : F a = some (ND a ws) → ws.length = ds.length → (∀ (i : Nat) (k : NestedKey) (b : Addr) (v : V) (l : NestedKey) (d : D), ws[i]? = some (k, b, v) → ds[i]? = some (l, d) → k = l ∧ k.depth ≤ 8 ∧ nkNum k = true) → (∀ (i : Nat) (k : NestedKey) (b : Addr) (v : V) (l : NestedKey) (d : D), ws[i]? = some (k, b, v) → ds[i]? = some (l, d) → Rep K F (.ref b) (nkD k)) →
      (∀ (i : Nat) (k : NestedKey) (b : Addr) (v : V) (l : NestedKey) (d : D), ws[i]? = some (k, b, v) → ds[i]? = some (l, d) → Rep K F v d) → Rep K F (.ref a) (.dictN ds)
  | ob {a C dx : Addr} {lay : List Str} {fs : List (Str × V)} {ds : List D} : F a = some (.ins C dx fs) → fs.map (·.1) = lay → (fs.map (·.2)).length = ds.length → (∀ (i : Nat) (v : V) (d : D), (fs.map (·.2))[i]? = some v → ds[i]? = some d → Rep K F v d) → Rep K F (.ref a) (.ob C lay ds)
  | exn {a dd C : Addr} {f : Str} {v : V} {d : D} : F dd = some (.xd [(f, v)]) → Rep K F v d → Rep K F (.ref a) (.exn a dd C f d)

/-- several -/
inductive Reps (K : PySem.W.Frag) (F : Hp) : List V → List D → Prop
  | nil : Reps K F [] []
  | cons {v : V} {vs : List V} {d : D} {ds : List D} : Rep K F v d → Reps K F vs ds → Reps K F (v :: vs) (d :: ds)
/-- with keys -/
inductive KReps {κ : Type} (K : PySem.W.Frag) (F : Hp) : List (κ × V) → List (κ × D) → Prop
  | nil : KReps K F [] []
  | cons {k : κ} {v : V} {vs : List (κ × V)} {d : D} {ds : List (κ × D)} : Rep K F v d → KReps K F vs ds → KReps K F ((k, v) :: vs) ((k, d) :: ds)
/-- with nested keys -/
inductive NReps (K : PySem.W.Frag) (F : Hp) : NW → List (NestedKey × D) → Prop
  | nil : NReps K F [] []
  | cons {k : NestedKey} {b : Addr} {v : V} {vs : NW} {d : D} {ds : List (NestedKey × D)} : k.depth ≤ 8 → nkNum k = true → Rep K F (.ref b) (nkD k) → Rep K F v d → NReps K F vs ds → NReps K F ((k, b, v) :: vs) ((k, d) :: ds)
section
variable {K : PySem.W.Frag} {F F' : Hp} {v : V} {d : D} {vs ws : List V} {ds es : List D}
theorem NReps.length : ∀ {vs : NW} {ds : List (NestedKey × D)}, NReps K F vs ds → vs.length = ds.length
  | _, _, .nil => rfl
  | _, _, .cons _ _ _ _ t => by simp [NReps.length t]
theorem NReps.get : ∀ {vs : NW} {ds : List (NestedKey × D)}, NReps K F vs ds → ∀ (i : Nat) (k : NestedKey) (b : Addr) (v : V) (l : NestedKey) (d : D), vs[i]? = some (k, b, v) → ds[i]? = some (l, d) → (k = l ∧ k.depth ≤ 8 ∧ nkNum k = true) ∧ Rep K F (.ref b) (nkD k) ∧ Rep K F v d
  | _, _, .nil, i, k, b, v, l, d, h, _ => by simp at h
  | _, _, .cons h1 h2 r1 r t, 0, k, b, v, l, d, h, g => by
    simp at h g
    obtain ⟨rfl, rfl, rfl⟩ := h
    obtain ⟨rfl, rfl⟩ := g
    exact ⟨⟨rfl, h1, h2⟩, r1, r⟩
  | _, _, .cons _ _ _ r t, i + 1, k, b, v, l, d, h, g => NReps.get t i k b v l d (by simpa using h) (by simpa using g)
theorem NReps.of : ∀ {vs : NW} {ds : List (NestedKey × D)}, vs.length = ds.length → (∀ (i : Nat) (k : NestedKey) (b : Addr) (v : V) (l : NestedKey) (d : D), vs[i]? = some (k, b, v) → ds[i]? = some (l, d) → (k = l ∧ k.depth ≤ 8 ∧ nkNum k = true) ∧ Rep K F (.ref b) (nkD k) ∧ Rep K F v d) → NReps K F vs ds
  | [], [], _, _ => .nil
  | (k, b, v) :: vs, (l, d) :: ds, hl, h => by
    obtain ⟨⟨rfl, h1, h2⟩, r1, r⟩ := h 0 k b v l d rfl rfl
    exact .cons h1 h2 r1 r (NReps.of (by simpa using hl) fun i k b v l d e g => h (i + 1) k b v l d (by simpa using e) (by simpa using g))
  | [], _ :: _, hl, _ => by simp at hl
  | _ :: _, [], hl, _ => by simp at hl
theorem Reps.length : ∀ {vs : List V} {ds : List D}, Reps K F vs ds → vs.length = ds.length
  | _, _, .nil => rfl
  | _, _, .cons _ t => by simp [Reps.length t]
theorem Reps.get : ∀ {vs : List V} {ds : List D}, Reps K F vs ds → ∀ (i : Nat) (v : V) (d : D), vs[i]? = some v → ds[i]? = some d → Rep K F v d
  | _, _, .nil, i, v, d, h, _ => by simp at h
  | _, _, .cons r t, 0, v, d, h, g => by simp at h g; subst h; subst g; exact r
  | _, _, .cons r t, i + 1, v, d, h, g => Reps.get t i v d (by simpa using h) (by simpa using g)
theorem Reps.of : ∀ {vs : List V} {ds : List D}, vs.length = ds.length → (∀ (i : Nat) (v : V) (d : D), vs[i]? = some v → ds[i]? = some d → Rep K F v d) → Reps K F vs ds
  | [], [], _, _ => .nil
  | v :: vs, d :: ds, hl, h => .cons (h 0 v d rfl rfl) (Reps.of (by simpa using hl) fun i v d e g => h (i + 1) v d (by simpa using e) (by simpa using g))
  | [], _ :: _, hl, _ => by simp at hl
  | _ :: _, [], hl, _ => by simp at hl
theorem KReps.length {κ : Type} : ∀ {vs : List (κ × V)} {ds : List (κ × D)}, KReps K F vs ds → vs.length = ds.length
  | _, _, .nil => rfl
  | _, _, .cons _ t => by simp [KReps.length t]
theorem KReps.get {κ : Type} : ∀ {vs : List (κ × V)} {ds : List (κ × D)}, KReps K F vs ds → ∀ (i : Nat) (k : κ) (v : V) (l : κ) (d : D), vs[i]? = some (k, v) → ds[i]? = some (l, d) → k = l ∧ Rep K F v d
  | _, _, .nil, i, k, v, l, d, h, _ => by simp at h
  | _, _, .cons r t, 0, k, v, l, d, h, g => by
    simp at h g
    obtain ⟨rfl, rfl⟩ := h
    obtain ⟨rfl, rfl⟩ := g
    exact ⟨rfl, r⟩
  | _, _, .cons r t, i + 1, k, v, l, d, h, g => KReps.get t i k v l d (by simpa using h) (by simpa using g)
theorem KReps.of {κ : Type} : ∀ {vs : List (κ × V)} {ds : List (κ × D)}, vs.length = ds.length → (∀ (i : Nat) (k : κ) (v : V) (l : κ) (d : D), vs[i]? = some (k, v) → ds[i]? = some (l, d) → k = l ∧ Rep K F v d) → KReps K F vs ds
  | [], [], _, _ => .nil
  | (k, v) :: vs, (l, d) :: ds, hl, h => by
    obtain ⟨rfl, r⟩ := h 0 k v l d rfl rfl
    exact .cons r (KReps.of (by simpa using hl) fun i k v l d e g => h (i + 1) k v l d (by simpa using e) (by simpa using g))
  | [], _ :: _, hl, _ => by simp at hl
  | _ :: _, [], hl, _ => by simp at hl
theorem Rep.mono (e : Ex F F') (h : Rep K F v d) : Rep K F' v d := by
  induction h with
  | none => exact .none
  | bool b => exact .bool b
  | int i => exact .int i
  | str s => exact .str s
  | rol hs hl _ ih => exact .rol (ex_l e hs) hl ih
  | list hs hl _ ih => exact .list (e _ _ hs) hl ih
  | tuple hs hl _ ih => exact .tuple (e _ _ hs) hl ih
  | dict ha hl h _ ih => exact .dict (e _ _ ha) hl h ih
  | dictT ha hl h _ ih => exact .dictT (e _ _ ha) hl h ih
  | dictN ha hl h _ _ ih1 ih2 => exact .dictN (e _ _ ha) hl h ih1 ih2
  | ob ha hy hl h ih => exact .ob (e _ _ ha) hy hl ih
  | exn h _ ih => exact .exn (e _ _ h) ih
theorem Reps.mono (e : Ex F F') : ∀ {vs : List V} {ds : List D}, Reps K F vs ds → Reps K F' vs ds
  | _, _, .nil => .nil
  | _, _, .cons r t => .cons (r.mono e) (Reps.mono e t)
theorem NReps.mono (e : Ex F F') : ∀ {vs : NW} {ds : List (NestedKey × D)}, NReps K F vs ds → NReps K F' vs ds
  | _, _, .nil => .nil
  | _, _, .cons h1 h2 r1 r t => .cons h1 h2 (r1.mono e) (r.mono e) (NReps.mono e t)
theorem KReps.mono {κ : Type} (e : Ex F F') : ∀ {vs : List (κ × V)} {ds : List (κ × D)}, KReps K F vs ds → KReps K F' vs ds
  | _, _, .nil => .nil
  | _, _, .cons r t => .cons (r.mono e) (KReps.mono e t)
theorem Rep.ro {a : Addr} (h : SqL K F a vs) (r : Reps K F vs ds) : Rep K F (.ref a) (.rol ds) := .rol h r.length r.get
theorem Rep.lst {a : Addr} (h : F a = some (.lst vs)) (r : Reps K F vs ds) : Rep K F (.ref a) (.list ds) := .list h r.length r.get
theorem Rep.tup {a : Addr} (h : F a = some (.tup vs)) (r : Reps K F vs ds) : Rep K F (.ref a) (.tuple ds) := .tuple h r.length r.get
theorem Rep.dic {a : Addr} {kvs : List (Key × V)} {es : List (Key × D)} (h : F a = some (.dK kvs)) (r : KReps K F kvs es) : Rep K F (.ref a) (.dict es) := .dict h r.length (fun i k v l d e g => (r.get i k v l d e g).1) (fun i k v l d e g => (r.get i k v l d e g).2)
theorem Rep.dicT {a : Addr} {kvs : List (List Key × V)} {es : List (List Key × D)} (h : F a = some (.dT kvs)) (r : KReps K F kvs es) : Rep K F (.ref a) (.dictT es) := .dictT h r.length (fun i k v l d e g => (r.get i k v l d e g).1) (fun i k v l d e g => (r.get i k v l d e g).2)
theorem Rep.dicN {a : Addr} {kvs : NW} {es : List (NestedKey × D)} (h : F a = some (ND a kvs)) (r : NReps K F kvs es) : Rep K F (.ref a) (.dictN es) := .dictN h r.length (fun i k b v l d e g => (r.get i k b v l d e g).1) (fun i k b v l d e g => (r.get i k b v l d e g).2.1) (fun i k b v l d e g => (r.get i k b v l d e g).2.2)
theorem Rep.obj {a C dx : Addr} {lay : List Str} {fs : List (Str × V)} (h : F a = some (.ins C dx fs)) (hl : fs.map (·.1) = lay) (r : Reps K F (fs.map (·.2)) ds) : Rep K F (.ref a) (.ob C lay ds) := .ob h hl r.length r.get
theorem Rep.rol_inv (h : Rep K F v (.rol ds)) : ∃ a vs, v = .ref a ∧ SqL K F a vs ∧ Reps K F vs ds := by
  cases h with
  | rol hs hl g => exact ⟨_, _, rfl, hs, .of hl g⟩
theorem Rep.list_inv (h : Rep K F v (.list ds)) : ∃ a vs, v = .ref a ∧ F a = some (.lst vs) ∧ Reps K F vs ds := by
  cases h with
  | list hs hl g => exact ⟨_, _, rfl, hs, .of hl g⟩
theorem Rep.tuple_inv (h : Rep K F v (.tuple ds)) : ∃ a vs, v = .ref a ∧ SqT K F a vs ∧ Reps K F vs ds := by
  cases h with
  | tuple hs hl g => exact ⟨_, _, rfl, .inl (.inl hs), .of hl g⟩
theorem Rep.tuple_inv2 (h : Rep K F v (.tuple ds)) : ∃ a vs, v = .ref a ∧ F a = some (.tup vs) ∧ Reps K F vs ds := by
  cases h with
  | tuple hs hl g => exact ⟨_, _, rfl, hs, .of hl g⟩
theorem Rep.dict_inv {es : List (Key × D)} (h : Rep K F v (.dict es)) : ∃ a kvs, v = .ref a ∧ F a = some (.dK kvs) ∧ KReps K F kvs es := by
  cases h with
  | dict hs hl g1 g2 => exact ⟨_, _, rfl, hs, .of hl fun i k v l d e g => ⟨g1 i k v l d e g, g2 i k v l d e g⟩⟩
theorem Rep.dictT_inv {es : List (List Key × D)} (h : Rep K F v (.dictT es)) : ∃ a kvs, v = .ref a ∧ F a = some (.dT kvs) ∧ KReps K F kvs es := by
  cases h with
  | dictT hs hl g1 g2 => exact ⟨_, _, rfl, hs, .of hl fun i k v l d e g => ⟨g1 i k v l d e g, g2 i k v l d e g⟩⟩
theorem Rep.dictN_inv {es : List (NestedKey × D)} (h : Rep K F v (.dictN es)) : ∃ a kvs, v = .ref a ∧ F a = some (ND a kvs) ∧ NReps K F kvs es := by
  cases h with
  | dictN hs hl g1 g2 g3 => exact ⟨_, _, rfl, hs, .of hl fun i k b v l d e g => ⟨g1 i k b v l d e g, g2 i k b v l d e g, g3 i k b v l d e g⟩⟩
theorem Rep.ob_inv {C : Addr} {lay : List Str} (h : Rep K F v (.ob C lay ds)) : ∃ a dx fs, v = .ref a ∧ F a = some (.ins C dx fs) ∧ fs.map (·.1) = lay ∧ Reps K F (fs.map (·.2)) ds := by
  cases h with
  | ob hs hy hl g => exact ⟨_, _, _, rfl, hs, hy, .of hl g⟩
theorem Rep.exn_inv {a dd C : Addr} {f : Str} (h : Rep K F v (.exn a dd C f d)) : v = .ref a ∧ ∃ w, F dd = some (.xd [(f, w)]) ∧ Rep K F w d := by
  cases h with
  | exn h r => exact ⟨rfl, _, h, r⟩
theorem Rep.int_inv {i : Int} (h : Rep K F v (.int i)) : v = .int i := by cases h; rfl
theorem Rep.bool_inv {i : Bool} (h : Rep K F v (.bool i)) : v = .bl i := by cases h; rfl
theorem Rep.str_inv {i : Str} (h : Rep K F v (.str i)) : v = .str i := by cases h; rfl
theorem Rep.none_inv (h : Rep K F v .none) : v = .non := by cases h; rfl
theorem Reps.append : ∀ {vs ws : List V} {ds es : List D}, Reps K F vs ds → Reps K F ws es → Reps K F (vs ++ ws) (ds ++ es)
  | _, _, _, _, .nil, t => t
  | _, _, _, _, .cons r t, u => .cons r (Reps.append t u)
theorem Reps.get_some {vs : List V} {ds : List D} (r : Reps K F vs ds) {i : Nat} {d : D} (h : ds[i]? = some d) : ∃ v, vs[i]? = some v ∧ Rep K F v d := by
  have hi := (List.getElem?_eq_some_iff.mp h).1
  have hv : i < vs.length := by rw [r.length]; exact hi
  exact ⟨vs[i], by simp [hv], r.get i _ d (by simp [hv]) h⟩
theorem Reps.take : ∀ {vs : List V} {ds : List D} (n : Nat), Reps K F vs ds → Reps K F (vs.take n) (ds.take n)
  | _, _, 0, _ => .nil
  | _, _, _ + 1, .nil => .nil
  | _, _, n + 1, .cons r t => .cons r (Reps.take n t)
theorem Reps.drop : ∀ {vs : List V} {ds : List D} (n : Nat), Reps K F vs ds → Reps K F (vs.drop n) (ds.drop n)
  | _, _, 0, r => r
  | _, _, _ + 1, .nil => .nil
  | _, _, n + 1, .cons _ t => Reps.drop n t
theorem Reps.set {v : V} {d : D} (r : Rep K F v d) : ∀ {vs : List V} {ds : List D} (i : Nat), Reps K F vs ds → Reps K F (vs.set i v) (ds.set i d)
  | _, _, _, .nil => .nil
  | _, _, 0, .cons _ t => .cons r t
  | _, _, i + 1, .cons q t => .cons q (Reps.set r i t)
theorem Reps.reverse {vs : List V} {ds : List D} (r : Reps K F vs ds) : Reps K F vs.reverse ds.reverse := by
  induction r with
  | nil => exact .nil
  | cons r t ih => rw [List.reverse_cons, List.reverse_cons]; exact ih.append (.cons r .nil)
theorem Reps.flatten_replicate {vs : List V} {ds : List D} (r : Reps K F vs ds) : ∀ k : Nat, Reps K F (List.replicate k vs).flatten (List.replicate k ds).flatten
  | 0 => .nil
  | k + 1 => by rw [List.replicate_succ, List.replicate_succ, List.flatten_cons, List.flatten_cons]; exact r.append (Reps.flatten_replicate r k)
end

/-! ### what a slot holds -/
/-- what one owns: a list, a dict, an instance -/
inductive Ct where
  | lst (ds : List D)
  | dct (kvs : List (Key × D))
  | dctT (kvs : List (List Key × D))
  | dctN (kvs : List (NestedKey × D))
  | ins (C : Addr) (lay : List Str) (xs : List D)
inductive Sl where
  | un
  | fz (d : D)
  | ow (b : Bool) (c : Ct)
abbrev Env := List Sl
def Ct.d : Ct → D
  | .lst ds => .list ds
  | .dct kvs => .dict kvs
  | .dctT kvs => .dictT kvs
  | .dctN kvs => .dictN kvs
  | .ins C lay xs => .ob C lay xs
/-- the object o is that -/
def CtR (K : PySem.W.Frag) (F : Hp) (a : Addr) (o : HO) : Ct → Prop
  | .lst ds => ∃ vs, o = .lst vs ∧ Reps K F vs ds
  | .dct kvs => ∃ ws, o = .dK ws ∧ KReps K F ws kvs
  | .dctT kvs => ∃ ws, o = .dT ws ∧ KReps K F ws kvs
  | .dctN kvs => ∃ ws, o = ND a ws ∧ NReps K F ws kvs
  | .ins C lay xs => ∃ dx ws, o = .ins C dx ws ∧ ws.map (·.1) = lay ∧ Reps K F (ws.map (·.2)) xs
/-- the ground of a body: what the callers keep, what is frozen and all that there is at the entry, the slots then -/
structure Base where
  G : Hp
  F0 : Hp
  H0 : Hp
  s0 : L2.St
/-- at a an object that one owns -/
structure OwR (K : PySem.W.Frag) (B : Base) (F H : Hp) (a : Addr) (c : Ct) : Prop where
  nf : F a = none
  ng : B.G a = none
  ob : ∃ o, H a = some o ∧ CtR K F a o c
def SlR (K : PySem.W.Frag) (B : Base) (F H : Hp) (i : Nat) (o : Option (Option V)) : Sl → Prop
  | .un => True
  | .fz d => ∃ v, o = some (some v) ∧ Rep K F v d
  | .ow b c => ∃ a, o = some (some (.ref a)) ∧ OwR K B F H a c ∧ (b = false → B.H0 a = none) ∧ (b = true → B.s0[i]? = o)
def isOw : Sl → Bool
  | .ow _ _ => true
  | _ => false
def isD : HO → Prop
  | .dK _ => True
  | .dT _ => True
  | .ext φ => ∃ a ws, φ = NdOk a ws
  | _ => False
theorem isD.noTb {u : HO} (h : isD u) : ¬ isTb u := fun z => by
  rcases z with ⟨ps, rfl⟩ | ⟨c, q, rfl⟩
  · exact h
  · obtain ⟨a, ws, e⟩ := h
    exact nd_ne_code (a := a) (ws := ws) (c := c) (q := q) (by unfold ND LamX.CodeO; rw [e])
/-- what is frozen stands; a dict may be locked -/
def ExL (F H : Hp) : Prop := ∀ a u, F a = some u → H a = some u ∨ (isD u ∧ ∃ o, H a = some (.frz o u))
theorem ExL.back {F H : Hp} {a : Addr} (e : ExL F H) (h : H a = none) : F a = none := by
  cases q : F a with
  | none => rfl
  | some u =>
    rcases e a u q with z | ⟨_, o, z⟩
    · rw [h] at z; cases z
    · rw [h] at z; cases z
theorem ExL.on {F H : Hp} {a : Addr} {u : HO} (e : ExL F H) (h : F a = some u) (n : ¬ isD u := by exact fun z => z) : H a = some u := by
  rcases e a u h with z | ⟨z, _⟩
  · exact z
  · exact absurd z n
theorem ExL.rd {F H : Hp} {a : Addr} {u : HO} (e : ExL F H) (h : F a = some u) : Rd H a u := by
  rcases e a u h with z | ⟨_, o, z⟩
  · exact .inl z
  · exact .inr ⟨o, z⟩
theorem ExL.of {F H : Hp} (e : Ex F H) : ExL F H := fun a u h => .inl (e a u h)
theorem ExL.upd {F H : Hp} {p : Addr} {o : HO} (e : ExL F H) (fp : F p = none) : ExL F (upd H p o) := fun a u h => by
  have q : a ≠ p := fun z => by rw [z, fp] at h; cases h
  rw [upd_ne q]; exact e a u h
theorem ExL.both {F H : Hp} {p : Addr} {o : HO} (e : ExL F H) : ExL (L2.upd F p o) (L2.upd H p o) := fun a u h => by
  by_cases q : a = p
  · subst q; rw [upd_same] at h ⊢; exact .inl h
  · rw [upd_ne q] at h ⊢; exact e a u h
theorem ExL.trans {F F' H : Hp} (e : Ex F F') (e2 : ExL F' H) : ExL F H := fun a u h => e2 a u (e a u h)
theorem xl_l {K : PySem.W.Frag} {F H : Hp} {a : Addr} {xs : List V} (e : ExL F H) (h : SqL K F a xs) : SqL K H a xs := by
  rcases h with (h | ⟨o, h⟩) | h
  · exact .inl (.inl (e.on h))
  · exact .inl (.inr ⟨o, e.on h⟩)
  · exact .inr h
theorem xl_t {K : PySem.W.Frag} {F H : Hp} {a : Addr} {xs : List V} (e : ExL F H) (h : SqT K F a xs) : SqT K H a xs := by
  rcases h with (h | ⟨o, h⟩) | h
  · exact .inl (.inl (e.on h))
  · exact .inl (.inr ⟨o, e.on h⟩)
  · exact .inr h
/-- what was there is there; a tuple was a tuple -/
def Thr (H0 H : Hp) : Prop := ∀ a, (H0 a ≠ none → H a ≠ none) ∧ ∀ vs, H a = some (.tup vs) → H0 a = none ∨ ∃ ws, H0 a = some (.tup ws)
theorem Thr.upd {H0 H : Hp} {p : Addr} {o : HO} (t : Thr H0 H) (h : ∀ vs, o = .tup vs → H0 p = none) : Thr H0 (L2.upd H p o) := fun a => by
  by_cases q : a = p
  · subst q
    rw [upd_same]
    exact ⟨fun _ z => by (cases z), fun vs z => .inl (h vs (by simpa using z))⟩
  · rw [upd_ne q]; exact t a
theorem Thr.prot {H0 H : Hp} {p : Addr} {o : HO} (t : Thr H0 H) (h : H p = some o) : Thr (L2.upd H0 p o) H := fun a => by
  by_cases q : a = p
  · subst q
    rw [upd_same]
    exact ⟨fun _ z => by (rw [h] at z; cases z), fun vs z => .inr ⟨vs, by rw [← h, z]⟩⟩
  · rw [upd_ne q]; exact t a
theorem Thr.unprot {H0 H : Hp} {p : Addr} {o : HO} (t : Thr (L2.upd H0 p o) H) (h : H p = some o) (n : ∀ vs, o ≠ .tup vs) : Thr H0 H := fun a => by
  by_cases q : a = p
  · subst q
    exact ⟨fun _ z => by (rw [h] at z; cases z), fun vs z => absurd (by (rw [h] at z; simpa using z)) (n vs)⟩
  · have := t a
    rw [upd_ne q] at this; exact this
theorem Thr.refl (H : Hp) : Thr H H := fun a => ⟨fun h => h, fun vs h => .inr ⟨vs, h⟩⟩
theorem Thr.trans {H0 H H' : Hp} (t : Thr H0 H) (t2 : Thr H H') : Thr H0 H' := fun a => ⟨fun h => (t2 a).1 ((t a).1 h), fun vs z => by
  rcases (t2 a).2 vs z with q | ⟨ws, q⟩
  · cases r : H0 a with
    | none => exact .inl rfl
    | some u => exact absurd q ((t a).1 (by rw [r]; simp))
  · exact (t a).2 ws q⟩
/-- may be frozen: new, or a tuple -/
def N0 (B : Base) (a : Addr) : Prop := B.H0 a = none ∨ ∃ vs, B.H0 a = some (.tup vs)
theorem CtR.noTup {K : PySem.W.Frag} {F : Hp} {a : Addr} {o : HO} {c : Ct} (h : CtR K F a o c) : ∀ vs, o ≠ .tup vs := fun vs z => by
  subst z
  cases c with
  | lst ds => obtain ⟨_, e, _⟩ := h; cases e
  | dct kvs => obtain ⟨_, e, _⟩ := h; cases e
  | dctT kvs => obtain ⟨_, e, _⟩ := h; cases e
  | dctN kvs => obtain ⟨_, e, _⟩ := h; unfold ND at e; cases e
  | ins C lay xs => obtain ⟨_, _, e, _⟩ := h; cases e
theorem CtR.noTb {K : PySem.W.Frag} {F : Hp} {a : Addr} {o : HO} {c : Ct} (h : CtR K F a o c) : ¬ isTb o := fun z => by
  rcases z with ⟨ps, rfl⟩ | ⟨c', q, rfl⟩
  · cases c with
    | lst ds => obtain ⟨_, e, _⟩ := h; cases e
    | dct kvs => obtain ⟨_, e, _⟩ := h; cases e
    | dctT kvs => obtain ⟨_, e, _⟩ := h; cases e
    | dctN kvs => obtain ⟨_, e, _⟩ := h; unfold ND at e; cases e
    | ins C lay xs => obtain ⟨_, _, e, _⟩ := h; cases e
  · cases c with
    | lst ds => obtain ⟨_, e, _⟩ := h; unfold LamX.CodeO at e; cases e
    | dct kvs => obtain ⟨_, e, _⟩ := h; unfold LamX.CodeO at e; cases e
    | dctT kvs => obtain ⟨_, e, _⟩ := h; unfold LamX.CodeO at e; cases e
    | dctN kvs => obtain ⟨_, e, _⟩ := h; exact nd_ne_code e.symm
    | ins C lay xs => obtain ⟨_, _, e, _⟩ := h; unfold LamX.CodeO at e; cases e
variable [Tbs]
/-- the tables stand, nobody's own, nobody's kept -/
def TbOk (B : Base) (F H : Hp) : Prop := ∀ p ∈ Tbs.T, LamX.TabS H p.1 p.2 ∧ F p.1 = none ∧ B.G p.1 = none
theorem TbOk.at {B : Base} {F H : Hp} (t : TbOk B F H) {p : Addr × Str} (hp : p ∈ Tbs.T) : ∃ ps, H p.1 = some (.tbl ps) := by
  obtain ⟨⟨ps, h, _⟩, _⟩ := t p hp
  exact ⟨ps, h⟩
theorem TbOk.go {B B' : Base} {F F' H H' : Hp} (t : TbOk B F H) (e : ∀ b o, H b = some o → isTb o → H' b = some o) (hF : ∀ b ps, H b = some (.tbl ps) → F b = none → F' b = none) (hG : ∀ b ps, H b = some (.tbl ps) → B.G b = none → B'.G b = none) : TbOk B' F' H' := fun p hp => by
  obtain ⟨t1, t2, t3⟩ := t p hp
  have t1' := t1
  obtain ⟨ps, h, _⟩ := t1'
  exact ⟨tabS_off t1 e, hF _ ps h t2, hG _ ps h t3⟩
theorem TbOk.upd {B : Base} {F H : Hp} {a : Addr} {o o' : HO} (t : TbOk B F H) (h : H a = some o) (n : ¬ isTb o) : TbOk B F (L2.upd H a o') :=
  t.go (fun b w hb ht => by
    have q : b ≠ a := fun z => by subst z; rw [h] at hb; exact n (by rw [show o = w by simpa using hb]; exact ht)
    rw [upd_ne q]; exact hb) (fun _ _ _ z => z) fun _ _ _ z => z
theorem notb_lst {xs : List V} : ¬ isTb (.lst xs) := fun z => by
  rcases z with ⟨_, z⟩ | ⟨_, _, z⟩
  · cases z
  · unfold LamX.CodeO at z; cases z
theorem notb_tup {xs : List V} : ¬ isTb (.tup xs) := fun z => by
  rcases z with ⟨_, z⟩ | ⟨_, _, z⟩
  · cases z
  · unfold LamX.CodeO at z; cases z
theorem notb_frz {o : Obj} {u : HO} : ¬ isTb (.frz o u) := fun z => by
  rcases z with ⟨_, z⟩ | ⟨_, _, z⟩
  · cases z
  · unfold LamX.CodeO at z; cases z
structure St (K : PySem.W.Frag) (B : Base) (F : Hp) (ρ : Env) (σ : L2.St) (H : Hp) : Prop where
  ex : ExL F H
  out : Ex B.G H
  new : ∀ a, F a ≠ none → B.F0 a ≠ none ∨ N0 B a
  ge : Ex B.F0 F
  thr : Thr B.H0 H
  len : σ.length = ρ.length
  sl : ∀ i, SlR K B F H i σ[i]? (ρ.getD i .un)
  own : ∀ i j a, isOw (ρ.getD i .un) = true → isOw (ρ.getD j .un) = true → σ[i]? = some (some (.ref a)) → σ[j]? = some (some (.ref a)) → i = j
  tb : TbOk B F H
section
variable {K : PySem.W.Frag} {B : Base} {F F' : Hp} {ρ ρ' : Env} {σ : L2.St} {H H' : Hp}
theorem St.there (S : St K B F ρ σ H) (a : Addr) (h : B.H0 a ≠ none) : H a ≠ none := (S.thr a).1 h
theorem St.fresh0 (S : St K B F ρ σ H) {p : Addr} (hp : H p = none) : B.H0 p = none := by
  cases hh : B.H0 p with
  | none => rfl
  | some u => exact absurd hp (S.there p (by rw [hh]; simp))
theorem St.n0 (S : St K B F ρ σ H) {p : Addr} {vs : List V} (h : H p = some (.tup vs)) : N0 B p := (S.thr p).2 vs h
theorem CtR.mono {a : Addr} {o : HO} {c : Ct} (e : Ex F F') (h : CtR K F a o c) : CtR K F' a o c := by
  cases c with
  | lst ds => obtain ⟨vs, e1, r⟩ := h; exact ⟨vs, e1, r.mono e⟩
  | dct kvs => obtain ⟨vs, e1, r⟩ := h; exact ⟨vs, e1, r.mono e⟩
  | dctT kvs => obtain ⟨vs, e1, r⟩ := h; exact ⟨vs, e1, r.mono e⟩
  | dctN kvs => obtain ⟨vs, e1, r⟩ := h; exact ⟨vs, e1, r.mono e⟩
  | ins C lay xs => obtain ⟨dx, vs, e1, e2, r⟩ := h; exact ⟨dx, vs, e1, e2, r.mono e⟩
theorem St.fz (S : St K B F ρ σ H) {i : Nat} {d : D} (h : ρ.getD i .un = .fz d) : ∃ v, σ[i]? = some (some v) ∧ Rep K F v d := by
  have := S.sl i
  rw [h] at this
  exact this
theorem St.ow (S : St K B F ρ σ H) {i : Nat} {b : Bool} {c : Ct} (h : ρ.getD i .un = .ow b c) :
    ∃ a, σ[i]? = some (some (.ref a)) ∧ OwR K B F H a c ∧ (b = false → B.H0 a = none) ∧ (b = true → B.s0[i]? = σ[i]?) := by
  have := S.sl i
  rw [h] at this
  exact this
/-- a new frozen object -/
theorem St.alloc (S : St K B F ρ σ H) {p : Addr} {o : HO} (hp : H p = none) : Ex F (upd F p o) ∧ St K B (upd F p o) ρ σ (upd H p o) := by
  have fp : F p = none := S.ex.back hp
  have e : Ex F (upd F p o) := Ex.new fp
  refine ⟨e, ⟨S.ex.both, fun a u h => ?_, fun a h => ?_, S.ge.trans e, S.thr.upd fun _ _ => S.fresh0 hp, S.len, fun i => ?_, S.own, S.tb.go (fun b u h _ => by rw [upd_ne (ne_of_none h hp)]; exact h) (fun b ps h z => by rw [upd_ne (ne_of_none h hp)]; exact z) fun b ps _ z => z⟩⟩
  · have : a ≠ p := ne_of_none (S.out a u h) hp
    rw [upd_ne this]; exact S.out a u h
  · by_cases q : a = p
    · subst q
      exact .inr (.inl (S.fresh0 hp))
    · rw [upd_ne q] at h; exact S.new a h
  · have s := S.sl i
    cases hs : ρ.getD i .un with
    | un => trivial
    | fz d => rw [hs] at s; obtain ⟨v, e1, r⟩ := s; exact ⟨v, e1, r.mono e⟩
    | ow b c =>
      rw [hs] at s
      obtain ⟨a, e1, ⟨nf, ng, u, hu, hc⟩, h2, h3⟩ := s
      have : a ≠ p := ne_of_none hu hp
      exact ⟨a, e1, ⟨by rw [upd_ne this]; exact nf, ng, u, by rw [upd_ne this]; exact hu, hc.mono e⟩, h2, h3⟩
/-- a new object of one's own, not yet in a slot -/
theorem St.keepNew (S : St K B F ρ σ H) {p : Addr} {o : HO} (hp : H p = none) : St K B F ρ σ (upd H p o) ∧ F p = none ∧ B.G p = none ∧ B.H0 p = none := by
  have fp : F p = none := S.ex.back hp
  have hp0 : B.H0 p = none := by
    cases hh : B.H0 p with
    | none => rfl
    | some u => exact absurd hp (S.there p (by rw [hh]; simp))
  refine ⟨⟨S.ex.upd fp, fun a u h => ?_, S.new, S.ge, S.thr.upd fun _ _ => hp0, S.len, fun i => ?_, S.own, S.tb.go (fun b u h _ => by rw [upd_ne (ne_of_none h hp)]; exact h) (fun b ps h z => z) fun b ps _ z => z⟩, fp, fresh_back S.out hp, hp0⟩
  · rw [upd_ne (ne_of_none (S.out a u h) hp)]; exact S.out a u h
  · have s := S.sl i
    cases hs : ρ.getD i .un with
    | un => trivial
    | fz d => rw [hs] at s; exact s
    | ow b c =>
      rw [hs] at s
      obtain ⟨a, e1, ⟨nf, ng, u, hu, hc⟩, h2, h3⟩ := s
      exact ⟨a, e1, ⟨nf, ng, u, by rw [upd_ne (ne_of_none hu hp)]; exact hu, hc⟩, h2, h3⟩
/-- what is owned becomes frozen -/
theorem OwR.freeze {a : Addr} {c : Ct} {o : HO} (h : CtR K F a o c) (hF : F' a = some o) (e : Ex F F') : Rep K F' (.ref a) c.d := by
  cases c with
  | lst ds => obtain ⟨vs, rfl, r⟩ := h; exact .lst hF (r.mono e)
  | dct kvs => obtain ⟨vs, rfl, r⟩ := h; exact .dic hF (r.mono e)
  | dctT kvs => obtain ⟨vs, rfl, r⟩ := h; exact .dicT hF (r.mono e)
  | dctN kvs => obtain ⟨vs, rfl, r⟩ := h; exact .dicN hF (r.mono e)
  | ins C lay xs => obtain ⟨dx, vs, rfl, hy, r⟩ := h; exact .obj hF hy (r.mono e)
/-- an object that stands, nobody's slot's, becomes frozen -/
theorem St.freezeAt (S : St K B F ρ σ H) {p : Addr} {o : HO} (hp : H p = some o) (fp : F p = none) (h0 : N0 B p) (nt : ¬ isTb o) (no : ∀ i, isOw (ρ.getD i .un) = true → σ[i]? ≠ some (some (.ref p))) :
    Ex F (upd F p o) ∧ St K B (upd F p o) ρ σ H := by
  have e : Ex F (upd F p o) := Ex.new fp
  refine ⟨e, ⟨fun a u h => ?_, S.out, fun a h => ?_, S.ge.trans e, S.thr, S.len, fun i => ?_, S.own, S.tb.go (fun b u h _ => h) (fun b ps h z => ?_) fun b ps _ z => z⟩⟩
  · by_cases q : a = p
    · subst q; rw [upd_same] at h; rw [hp]; exact .inl h
    · rw [upd_ne q] at h; exact S.ex a u h
  · by_cases q : a = p
    · subst q; exact .inr h0
    · rw [upd_ne q] at h; exact S.new a h
  · have s := S.sl i
    cases hs : ρ.getD i .un with
    | un => trivial
    | fz d => rw [hs] at s; obtain ⟨v, e1, r⟩ := s; exact ⟨v, e1, r.mono e⟩
    | ow b c =>
      rw [hs] at s
      obtain ⟨a, e1, ⟨nf, ng, u, hu, hc⟩, h2, h3⟩ := s
      have : a ≠ p := fun z => no i (by rw [hs]; rfl) (by rw [e1, z])
      exact ⟨a, e1, ⟨by rw [upd_ne this]; exact nf, ng, u, hu, hc.mono e⟩, h2, h3⟩
  · have : b ≠ p := fun q => by subst q; rw [hp] at h; exact nt (.inl ⟨ps, by simpa using h⟩)
    rw [upd_ne this]; exact z
theorem getD_set_self {ρ : Env} {i : Nat} {s t : Sl} (h : i < ρ.length) : (ρ.set i s).getD i t = s := by
  simp [List.getD, List.getElem?_set_self h]
theorem getD_set_ne {ρ : Env} {i j : Nat} {s t : Sl} (h : i ≠ j) : (ρ.set i s).getD j t = ρ.getD j t := by
  simp [List.getD, List.getElem?_set_ne h]
theorem lt_of_getD {ρ : Env} {i : Nat} (h : isOw (ρ.getD i .un) = true) : i < ρ.length := by
  by_cases q : i < ρ.length
  · exact q
  · rw [List.getD, List.getElem?_eq_none (by omega)] at h; cases h
/-- the slots weakened: an owned one given up -/
theorem St.drop (S : St K B F ρ σ H) (i : Nat) : St K B F (ρ.set i .un) σ H := by
  refine ⟨S.ex, S.out, S.new, S.ge, S.thr, by simpa using S.len, fun j => ?_, fun j k a h1 h2 e1 e2 => ?_, S.tb⟩
  · by_cases q : i = j
    · subst q
      by_cases hl : i < ρ.length
      · rw [getD_set_self hl]; trivial
      · rw [List.set_eq_of_length_le (by omega)]; exact S.sl i
    · rw [getD_set_ne q]; exact S.sl j
  · have hj : isOw (ρ.getD j .un) = true := by
      by_cases q : i = j
      · subst q
        by_cases hl : i < ρ.length
        · rw [getD_set_self hl] at h1; cases h1
        · rw [List.set_eq_of_length_le (by omega)] at h1; exact h1
      · rw [getD_set_ne q] at h1; exact h1
    have hk : isOw (ρ.getD k .un) = true := by
      by_cases q : i = k
      · subst q
        by_cases hl : i < ρ.length
        · rw [getD_set_self hl] at h2; cases h2
        · rw [List.set_eq_of_length_le (by omega)] at h2; exact h2
      · rw [getD_set_ne q] at h2; exact h2
    exact S.own j k a hj hk e1 e2
/-- a slot that holds a frozen thing -/
theorem St.set_fz (S : St K B F ρ σ H) {i : Nat} {v : V} {d : D} (hs : i < σ.length) (hr : i < ρ.length) (r : Rep K F v d) : St K B F (ρ.set i (.fz d)) (σ.set i (some v)) H := by
  refine ⟨S.ex, S.out, S.new, S.ge, S.thr, by simpa using S.len, fun j => ?_, fun j k a h1 h2 e1 e2 => ?_, S.tb⟩
  · by_cases q : i = j
    · subst q
      rw [getD_set_self hr, List.getElem?_set_self hs]
      exact ⟨v, rfl, r⟩
    · rw [getD_set_ne q, List.getElem?_set_ne q]; exact S.sl j
  · have hij : i ≠ j := fun q => by subst q; rw [getD_set_self hr] at h1; cases h1
    have hik : i ≠ k := fun q => by subst q; rw [getD_set_self hr] at h2; cases h2
    rw [getD_set_ne hij] at h1
    rw [getD_set_ne hik] at h2
    rw [List.getElem?_set_ne hij] at e1
    rw [List.getElem?_set_ne hik] at e2
    exact S.own j k a h1 h2 e1 e2
/-- a slot that holds a new object of one's own -/
theorem St.set_ow (S : St K B F ρ σ H) {i : Nat} {p : Addr} {c : Ct} (hs : i < σ.length) (hr : i < ρ.length) (o : OwR K B F H p c) (h0 : B.H0 p = none) (no : ∀ j, j ≠ i → isOw (ρ.getD j .un) = true → σ[j]? ≠ some (some (.ref p))) :
    St K B F (ρ.set i (.ow false c)) (σ.set i (some (.ref p))) H := by
  refine ⟨S.ex, S.out, S.new, S.ge, S.thr, by simpa using S.len, fun j => ?_, fun j k a h1 h2 e1 e2 => ?_, S.tb⟩
  · by_cases q : i = j
    · subst q
      rw [getD_set_self hr, List.getElem?_set_self hs]
      exact ⟨p, rfl, o, fun _ => h0, fun z => by cases z⟩
    · rw [getD_set_ne q, List.getElem?_set_ne q]; exact S.sl j
  · by_cases hij : i = j
    · subst hij
      by_cases hik : i = k
      · exact hik
      · rw [getD_set_ne hik] at h2
        rw [List.getElem?_set_ne hik] at e2
        rw [List.getElem?_set_self hs] at e1
        have : p = a := by simpa using e1
        subst this
        exact absurd e2 (no k (fun z => hik z.symm) h2)
    · rw [getD_set_ne hij] at h1
      rw [List.getElem?_set_ne hij] at e1
      by_cases hik : i = k
      · subst hik
        rw [List.getElem?_set_self hs] at e2
        have : p = a := by simpa using e2
        subst this
        exact absurd e1 (no j (fun z => hij z.symm) h1)
      · rw [getD_set_ne hik] at h2
        rw [List.getElem?_set_ne hik] at e2
        exact S.own j k a h1 h2 e1 e2
/-- an owned object is written -/
theorem St.write (S : St K B F ρ σ H) {i : Nat} {b : Bool} {c c' : Ct} {a : Addr} {o : HO} (h : ρ.getD i .un = .ow b c) (ha : σ[i]? = some (some (.ref a))) (r : CtR K F a o c') :
    St K B F (ρ.set i (.ow b c')) σ (upd H a o) := by
  obtain ⟨a', e1, ⟨nf, ng, u, hu, hc⟩, h2, h3⟩ := S.ow h
  rw [ha] at e1
  have : a = a' := by simpa using e1
  subst this
  have hr : i < ρ.length := lt_of_getD (by rw [h]; rfl)
  refine ⟨S.ex.upd nf, fun x w hx => ?_, S.new, S.ge, S.thr.upd fun vs z => absurd z (r.noTup vs), by simpa using S.len, fun j => ?_, fun j k x h1 h2 e1 e2 => ?_, S.tb.go (fun b w hb ht => by rw [upd_ne (show b ≠ a from fun z => by subst z; rw [hu] at hb; exact hc.noTb (by rw [show u = w by simpa using hb]; exact ht))]; exact hb) (fun b ps _ z => z) fun b ps _ z => z⟩
  · have : x ≠ a := fun z => by rw [z, ng] at hx; cases hx
    rw [upd_ne this]; exact S.out x w hx
  · by_cases q : i = j
    · subst q
      rw [getD_set_self hr]
      exact ⟨a, ha, ⟨nf, ng, o, upd_same, r⟩, h2, h3⟩
    · rw [getD_set_ne q]
      have s := S.sl j
      cases hs : ρ.getD j .un with
      | un => trivial
      | fz d => rw [hs] at s; exact s
      | ow b' c2 =>
        rw [hs] at s
        obtain ⟨a2, e2, ⟨nf2, ng2, u2, hu2, hc2⟩, g2, g3⟩ := s
        have : a2 ≠ a := fun z => q (S.own i j a (by rw [h]; rfl) (by rw [hs]; rfl) ha (by rw [e2, z]))
        exact ⟨a2, e2, ⟨nf2, ng2, u2, by rw [upd_ne this]; exact hu2, hc2⟩, g2, g3⟩
  · have f : ∀ j, isOw ((ρ.set i (.ow b c')).getD j .un) = true → isOw (ρ.getD j .un) = true := fun j hj => by
      by_cases q : i = j
      · subst q; rw [h]; rfl
      · rw [getD_set_ne q] at hj; exact hj
    exact S.own j k x (f j h1) (f k h2) e1 e2
/-- a slot's owned object is frozen where it stands -/
theorem St.freezeSlot (S : St K B F ρ σ H) {i : Nat} {c : Ct} (h : ρ.getD i .un = .ow false c) : ∃ v F', σ[i]? = some (some v) ∧ Ex F F' ∧ Rep K F' v c.d ∧ St K B F' (ρ.set i (.fz c.d)) σ H := by
  obtain ⟨a, e1, ⟨nf, ng, o, ho, hc⟩, h2, h3⟩ := S.ow h
  have hr : i < ρ.length := lt_of_getD (by rw [h]; rfl)
  have hs : i < σ.length := (List.getElem?_eq_some_iff.mp e1).1
  have S1 := S.drop i
  have no : ∀ j, isOw ((ρ.set i .un).getD j .un) = true → σ[j]? ≠ some (some (.ref a)) := fun j hj z => by
    by_cases q : i = j
    · subst q; rw [getD_set_self hr] at hj; cases hj
    · rw [getD_set_ne q] at hj
      exact q (S.own i j a (by rw [h]; rfl) hj e1 z)
  obtain ⟨e, S2⟩ := S1.freezeAt ho nf (.inl (h2 rfl)) hc.noTb no
  have r : Rep K (upd F a o) (.ref a) c.d := OwR.freeze hc upd_same e
  have S3 := S2.set_fz (i := i) (v := .ref a) (d := c.d) hs (by simpa using hr) r
  rw [List.set_set] at S3
  have hσ : σ.set i (some (.ref a)) = σ := by
    apply List.ext_getElem?
    intro j
    by_cases q : i = j
    · subst q; rw [List.getElem?_set_self hs, e1]
    · rw [List.getElem?_set_ne q]
  rw [hσ] at S3
  exact ⟨.ref a, _, e1, e, r, S3⟩
/-- the ground with one thing more that stays -/
def Base.prot (B : Base) (a : Addr) (o : HO) : Base := ⟨upd B.G a o, B.F0, upd B.H0 a o, B.s0⟩
theorem St.prot (S : St K B F ρ σ H) {a : Addr} {o : HO} (ha : H a = some o) (fa : F a = none) (no : ∀ j, isOw (ρ.getD j .un) = true → σ[j]? ≠ some (some (.ref a))) (ntb : ∀ ps, o ≠ .tbl ps := by intro _ z; cases z) : St K (B.prot a o) F ρ σ H := by
  refine ⟨S.ex, fun x u hx => ?_, fun x hx => ?_, S.ge, S.thr.prot ha, S.len, fun j => ?_, S.own, S.tb.go (fun b u h _ => h) (fun b ps _ z => z) fun b ps h z => by
    show upd B.G a o b = none
    rw [upd_ne (show b ≠ a from fun q => by subst q; rw [ha] at h; exact ntb ps (by simpa using h))]; exact z⟩
  · by_cases q : x = a
    · subst q
      have hx : upd B.G x o x = some u := hx
      rw [upd_same] at hx; rw [ha]; exact hx
    · have hx : upd B.G a o x = some u := hx
      rw [upd_ne q] at hx; exact S.out x u hx
  · have q : x ≠ a := fun z => by rw [z] at hx; exact hx fa
    show B.F0 x ≠ none ∨ upd B.H0 a o x = none ∨ ∃ vs, upd B.H0 a o x = some (.tup vs)
    rw [upd_ne q]; exact S.new x hx
  · have s := S.sl j
    cases hs : ρ.getD j .un with
    | un => trivial
    | fz d => rw [hs] at s; exact s
    | ow b c =>
      rw [hs] at s
      obtain ⟨a2, e2, ⟨nf2, ng2, u2, hu2, hc2⟩, g2, g3⟩ := s
      have q : a2 ≠ a := fun z => no j (by rw [hs]; rfl) (by rw [e2, z])
      refine ⟨a2, e2, ⟨nf2, ?_, u2, hu2, hc2⟩, fun hb => ?_, g3⟩
      · show upd B.G a o a2 = none
        rw [upd_ne q]; exact ng2
      · show upd B.H0 a o a2 = none
        rw [upd_ne q]; exact g2 hb
theorem St.unprot {a : Addr} {o : HO} (S : St K (B.prot a o) F ρ σ H) (ng : B.G a = none) (f0 : B.F0 a = none) (nt : ∀ vs, o ≠ .tup vs) : St K B F ρ σ H ∧ H a = some o ∧ F a = none ∧ ∀ j, isOw (ρ.getD j .un) = true → σ[j]? ≠ some (some (.ref a)) := by
  have fa : F a = none := by
    cases h : F a with
    | none => rfl
    | some u =>
      rcases S.new a (by rw [h]; simp) with z | z
      · exact absurd f0 z
      · have z : upd B.H0 a o a = none ∨ ∃ vs, upd B.H0 a o a = some (.tup vs) := z
        rw [upd_same] at z
        rcases z with z | ⟨vs, z⟩
        · cases z
        · exact absurd (by simpa using z) (nt vs)
  have ha : H a = some o := S.out a o (show upd B.G a o a = some o from upd_same)
  refine ⟨⟨S.ex, fun x u hx => ?_, fun x hx => ?_, S.ge, Thr.unprot S.thr ha nt, S.len, fun j => ?_, S.own, S.tb.go (fun b u h _ => h) (fun b ps _ z => z) fun b ps _ z => by
    have z : upd B.G a o b = none := z
    by_cases q : b = a
    · rw [q]; exact ng
    · rw [upd_ne q] at z; exact z⟩, ha, fa, fun j hj z => ?_⟩
  · have q : x ≠ a := fun z => by rw [z, ng] at hx; cases hx
    exact S.out x u (show upd B.G a o x = some u by rw [upd_ne q]; exact hx)
  · rcases S.new x hx with z | z
    · exact .inl z
    · have z : upd B.H0 a o x = none ∨ ∃ vs, upd B.H0 a o x = some (.tup vs) := z
      by_cases q : x = a
      · subst q
        exact absurd hx (by rw [fa]; simp)
      · rw [upd_ne q] at z; exact .inr z
  · have s := S.sl j
    cases hs : ρ.getD j .un with
    | un => trivial
    | fz d => rw [hs] at s; exact s
    | ow b c =>
      rw [hs] at s
      obtain ⟨a2, e2, ⟨nf2, ng2, u2, hu2, hc2⟩, g2, g3⟩ := s
      have ng2 : upd B.G a o a2 = none := ng2
      have q : a2 ≠ a := fun z => by rw [z, upd_same] at ng2; cases ng2
      rw [upd_ne q] at ng2
      refine ⟨a2, e2, ⟨nf2, ng2, u2, hu2, hc2⟩, fun hb => ?_, g3⟩
      have g2 : upd B.H0 a o a2 = none := g2 hb
      rw [upd_ne q] at g2; exact g2
  · have s := S.sl j
    cases hs : ρ.getD j .un with
    | un => rw [hs] at hj; cases hj
    | fz d => rw [hs] at hj; cases hj
    | ow b c =>
      rw [hs] at s
      obtain ⟨a2, e2, ⟨nf2, ng2, _⟩, _⟩ := s
      rw [e2] at z
      have : a2 = a := by simpa using z
      have ng2 : upd B.G a o a2 = none := ng2
      rw [this, upd_same] at ng2; cases ng2
/-- more of the callers' kept -/
structure Base.Le (B B' : Base) : Prop where
  f : B'.F0 = B.F0
  h : B'.H0 = B.H0
  s : B'.s0 = B.s0
  g : Ex B.G B'.G
theorem Base.Le.refl (B : Base) : B.Le B := ⟨rfl, rfl, rfl, Ex.refl _⟩
theorem Base.Le.none {B B' : Base} (l : B.Le B') {a : Addr} (h : B'.G a = Option.none) : B.G a = Option.none := fresh_back l.g h
theorem OwR.weaken {B B' : Base} (l : B.Le B') {a : Addr} {c : Ct} (h : OwR K B' F H a c) : OwR K B F H a c := ⟨h.nf, l.none h.ng, h.ob⟩
theorem St.weaken {B B' : Base} (l : B.Le B') (S : St K B' F ρ σ H) : St K B F ρ σ H := by
  refine ⟨S.ex, fun a u h => S.out a u (l.g a u h), fun a h => ?_, ?_, by rw [← l.h]; exact S.thr, S.len, fun i => ?_, S.own, S.tb.go (fun b u h _ => h) (fun b ps _ z => z) fun b ps _ z => l.none z⟩
  · have := S.new a h
    unfold N0 at this ⊢
    rw [← l.f, ← l.h]; exact this
  · rw [← l.f]; exact S.ge
  · have s := S.sl i
    cases hs : ρ.getD i .un with
    | un => trivial
    | fz d => rw [hs] at s; exact s
    | ow b c =>
      rw [hs] at s
      obtain ⟨a, e1, o, h2, h3⟩ := s
      exact ⟨a, e1, o.weaken l, fun z => by rw [← l.h]; exact h2 z, fun z => by rw [← l.s]; exact h3 z⟩
end
end DL
set_option Elab.async false
set_option linter.all false
set_option maxRecDepth 100000
set_option maxHeartbeats 1000000
/-! DL2: the lifts; expressions. -/
namespace DL
open PySem L2 Evl
variable [Tbs]

structure Exn where
  C : Addr
  f : Str
  d : D
abbrev XP := Exn → Env → Prop
abbrev DE := Env → XP → (D → Env → Prop) → Prop
abbrev DT := Env → XP → (Bool → Env → Prop) → Prop
structure MonoE (de : DE) : Prop where
  go : ∀ {ρ X X' K K'}, (∀ x ρ, X x ρ → X' x ρ) → (∀ r ρ, K r ρ → K' r ρ) → de ρ X K → de ρ X' K'
structure MonoT (de : DT) : Prop where
  go : ∀ {ρ X X' K K'}, (∀ x ρ, X x ρ → X' x ρ) → (∀ r ρ, K r ρ → K' r ρ) → de ρ X K → de ρ X' K'

theorem PE.imp {X : Cx} {e : Expr} {t t' : TE} (h : PE X e t) (hi : ∀ σ H Q, t' σ H Q → t σ H Q) : PE X e t' := ⟨fun pins s σ H Q I q => h.run pins s σ H Q I (hi σ H Q q)⟩
theorem PT.imp {X : Cx} {e : Expr} {t t' : TT} (h : PT X e t) (hi : ∀ σ H Q, t' σ H Q → t σ H Q) : PT X e t' := ⟨fun pins s σ H Q I q => h.run pins s σ H Q I (hi σ H Q q)⟩
theorem PW.imp {X : Cx} {e : Expr} {t t' : TT} (h : PW X e t) (hi : ∀ σ H Q, t' σ H Q → t σ H Q) : PW X e t' := ⟨fun w pins s σ H Q I q => h.run w pins s σ H Q I (hi σ H Q q)⟩
theorem PA.imp {X : Cx} {e : List Expr} {t t' : TA} (h : PA X e t) (hi : ∀ σ H Q, t' σ H Q → t σ H Q) : PA X e t' := ⟨fun p pins s σ H Q I q => h.run p pins s σ H Q I (hi σ H Q q)⟩
theorem PS.imp {X : Cx} {e : Stmt} {t t' : TS} (h : PS X e t) (hi : ∀ D σ H, t' D σ H → t D σ H) : PS X e t' := ⟨fun pins s σ H D I q => h.run pins s σ H D I (hi D σ H q)⟩
theorem PSs.imp {X : Cx} {e : List Stmt} {t t' : TS} (h : PSs X e t) (hi : ∀ D σ H, t' D σ H → t D σ H) : PSs X e t' := ⟨fun pins s σ H D I q => h.run pins s σ H D I (hi D σ H q)⟩

def xl (K : PySem.W.Frag) (W : WX) (B : Base) (F : Hp) (σ : L2.St) : XP := fun x ρ' =>
  ∀ F' H' dd v, Ex F F' → St K B F' ρ' σ H' → F' dd = some (.xd [(x.f, v)]) → Rep K F' v x.d → W (.ref x.C) (some dd) σ H'
theorem xl_up {K : PySem.W.Frag} {W : WX} {B : Base} {F F' : Hp} {σ : L2.St} (e : Ex F F') : ∀ x ρ, xl K W B F σ x ρ → xl K W B F' σ x ρ := fun _ _ h F2 H2 dd v e2 S h1 r => h F2 H2 dd v (e.trans e2) S h1 r
def liftE (K : PySem.W.Frag) (W : WX) (de : DE) : TE := fun σ H Q => ∃ B F ρ, St K B F ρ σ H ∧ de ρ (xl K W B F σ) fun r ρ' => ∀ v F' H', Ex F F' → St K B F' ρ' σ H' → Rep K F' v r → Q v H'
def liftT (K : PySem.W.Frag) (W : WX) (de : DT) : TT := fun σ H Q => ∃ B F ρ, St K B F ρ σ H ∧ de ρ (xl K W B F σ) fun r ρ' => ∀ F' H', Ex F F' → St K B F' ρ' σ H' → Q r H'
/-- arguments: a datum, or an owned thing that is lent -/
inductive AV where
  | d (x : D)
  | bor (i : Nat)
abbrev DAs := Env → XP → (List AV → Env → Prop) → Prop
structure MonoA (de : DAs) : Prop where
  go : ∀ {ρ X X' K K'}, (∀ x ρ, X x ρ → X' x ρ) → (∀ r ρ, K r ρ → K' r ρ) → de ρ X K → de ρ X' K'
def AvR (K : PySem.W.Frag) (F : Hp) (σ : L2.St) : List V → List AV → Prop
  | [], [] => True
  | v :: vs, .d x :: as => Rep K F v x ∧ AvR K F σ vs as
  | v :: vs, .bor i :: as => σ[i]? = some (some v) ∧ AvR K F σ vs as
  | _, _ => False
theorem AvR.mono {K : PySem.W.Frag} {F F' : Hp} {σ : L2.St} (e : Ex F F') : ∀ {vs : List V} {as : List AV}, AvR K F σ vs as → AvR K F' σ vs as
  | [], [], _ => trivial
  | v :: vs, .d x :: as, h => ⟨h.1.mono e, AvR.mono e h.2⟩
  | v :: vs, .bor i :: as, h => ⟨h.1, AvR.mono e h.2⟩
  | [], _ :: _, h => h.elim
  | _ :: _, [], h => h.elim
def liftA (K : PySem.W.Frag) (W : WX) (de : DAs) : TA := fun σ H Q => ∃ B F ρ, St K B F ρ σ H ∧ de ρ (xl K W B F σ) fun r ρ' => ∀ vs F' H', Ex F F' → St K B F' ρ' σ H' → AvR K F' σ vs r → Q vs H'
section
variable {K : PySem.W.Frag} {W : WX} {B : Base} {F0 F : Hp} {ρ : Env} {σ : L2.St} {H : Hp}
theorem liftE.of {de : DE} {k : D → Env → Prop} {Q : VK} (m : MonoE de) (e : Ex F0 F) (S : St K B F ρ σ H) (h : de ρ (xl K W B F0 σ) k) (hk : ∀ r ρ1, k r ρ1 → ∀ v F1 H1, Ex F F1 → St K B F1 ρ1 σ H1 → Rep K F1 v r → Q v H1) : liftE K W de σ H Q :=
  ⟨B, F, ρ, S, m.go (xl_up e) hk h⟩
theorem liftT.of {de : DT} {k : Bool → Env → Prop} {Q : Bool → Hp → Prop} (m : MonoT de) (e : Ex F0 F) (S : St K B F ρ σ H) (h : de ρ (xl K W B F0 σ) k) (hk : ∀ r ρ1, k r ρ1 → ∀ F1 H1, Ex F F1 → St K B F1 ρ1 σ H1 → Q r H1) : liftT K W de σ H Q :=
  ⟨B, F, ρ, S, m.go (xl_up e) hk h⟩
theorem liftA.of {de : DAs} {k : List AV → Env → Prop} {Q : List V → Hp → Prop} (m : MonoA de) (e : Ex F0 F) (S : St K B F ρ σ H) (h : de ρ (xl K W B F0 σ) k) (hk : ∀ r ρ1, k r ρ1 → ∀ v F1 H1, Ex F F1 → St K B F1 ρ1 σ H1 → AvR K F1 σ v r → Q v H1) : liftA K W de σ H Q :=
  ⟨B, F, ρ, S, m.go (xl_up e) hk h⟩
end
structure PD (X : Cx) (W : WX) (e : Expr) (de : DE) : Prop where
  mono : MonoE de
  run : PE X e (liftE X.K W de)
structure PDT (X : Cx) (W : WX) (e : Expr) (de : DT) : Prop where
  mono : MonoT de
  run : PT X e (liftT X.K W de)
structure PDW (X : Cx) (W : WX) (e : Expr) (de : DT) : Prop where
  mono : MonoT de
  run : PW X e (liftT X.K W de)
structure PDA (X : Cx) (W : WX) (es : List Expr) (de : DAs) : Prop where
  mono : MonoA de
  run : PA X es (liftA X.K W de)

/-! ### names and constants -/
def gt (ρ : Env) (i : Nat) : Sl := ρ.getD i .un
def ofFz : Sl → (D → Prop) → Prop
  | .fz d, k => k d
  | _, _ => False
def eVar (i : Nat) : DE := fun ρ _ K => ofFz (gt ρ i) fun d => K d ρ
def eC (d : D) : DE := fun ρ _ K => K d ρ
section
variable {X : Cx} {W : WX} {a b : Expr} {da db : DE} {pos : Pos}
theorem ofFz.eq {s : Sl} {k : D → Prop} (h : ofFz s k) : ∃ d, s = .fz d ∧ k d := by
  cases s with
  | fz d => exact ⟨d, rfl, h⟩
  | un => exact h.elim
  | ow b c => exact h.elim
theorem mono_var {i : Nat} : MonoE (eVar i) := ⟨fun hx hk h => by
  obtain ⟨d, e, q⟩ := ofFz.eq h
  show ofFz _ _
  rw [e]; exact hk _ _ q⟩
theorem mono_c {d : D} : MonoE (eC d) := ⟨fun hx hk h => hk _ _ h⟩
theorem pd_var (i : Nat) {x : Str} (hN : X.N[i]? = some x := by rfl) (hv : Vis X.env.scope x := by first | exact Or.inl rfl | exact Or.inr (Or.inl rfl) | exact Or.inr (Or.inr rfl)) (hd : (x == ("__debug__" : Str)) = false := by decide)
    (hcd : (x == ("__classdict__" : Str)) = false := by decide) : PD X W (.Name x pos) (eVar i) := ⟨mono_var, PE.imp (pe_var hN hv hd hcd) fun σ H Q ⟨B, F, ρ, S, h⟩ => by
    obtain ⟨d, e, q⟩ := ofFz.eq h
    obtain ⟨v, e1, r⟩ := S.fz e
    exact ⟨v, e1, q v F H (Ex.refl _) S r⟩⟩
theorem pd_const {e : Expr} {v : V} {d : D} (h : PE X e (tC v)) (r : ∀ F, Rep X.K F v d) : PD X W e (eC d) := ⟨mono_c, PE.imp h fun σ H Q ⟨B, F, ρ, S, h⟩ => h v F H (Ex.refl _) S (r F)⟩
theorem pd_int {i : Int} {j} : PD X W (.Constant (.int i) j pos) (eC (.int i)) := pd_const pe_int fun _ => .int i
theorem pd_bool {i : Bool} {j} : PD X W (.Constant (.bool i) j pos) (eC (.bool i)) := pd_const pe_bl fun _ => .bool i
theorem pd_none {j} : PD X W (.Constant .none j pos) (eC .none) := pd_const pe_non fun _ => .none
theorem pd_str {x : Str} {j} : PD X W (.Constant (.str x) j pos) (eC (.str x)) := pd_const pe_str fun _ => .str x
/-- a module's constant -/
theorem pd_gint {x : Str} {i : Int} {u : Value} (hg : Gl X x) (hm : X.mg x = some u) (r : ∃ t, u = .int i t) (hd : (x == ("__debug__" : Str)) = false := by decide) : PD X W (.Name x pos) (eC (.int i)) := pd_const (pe_glob (v := .int i) hg hm r hd) fun _ => .int i
theorem pd_gstr {x : Str} {i : Str} {u : Value} (hg : Gl X x) (hm : X.mg x = some u) (r : ∃ t, u = .str i t) (hd : (x == ("__debug__" : Str)) = false := by decide) : PD X W (.Name x pos) (eC (.str i)) := pd_const (pe_glob (v := .str i) hg hm r hd) fun _ => .str i

/-! ### operators -/
abbrev DOp := D → D → (D → Prop) → Prop
structure MonoO (f : DOp) : Prop where
  go : ∀ {x y P P'}, (∀ z, P z → P' z) → f x y P → f x y P'
structure ROp (K : PySem.W.Frag) (r : R2) (f : DOp) : Prop where
  mono : MonoO f
  run : ∀ {B F ρ σ H v w x y Q P}, St K B F ρ σ H → Rep K F v x → Rep K F w y → f x y P → (∀ z, P z → ∀ u F' H', Ex F F' → St K B F' ρ σ H' → Rep K F' u z → Q u H') → r v w H Q
def eOp (f : DOp) (da db : DE) : DE := fun ρ X K => da ρ X fun x ρ1 => db ρ1 X fun y ρ2 => f x y fun z => K z ρ2
theorem mono_op {f : DOp} (hf : MonoO f) (ma : MonoE da) (mb : MonoE db) : MonoE (eOp f da db) := ⟨fun hx hk h => ma.go hx (fun _ _ h => mb.go hx (fun _ _ h => hf.go (fun _ h => hk _ _ h) h) h) h⟩
theorem opT {r : R2} {f : DOp} (hr : ROp X.K r f) (ma : MonoE da) (mb : MonoE db) {σ : L2.St} {H : Hp} {Q : VK} (h : liftE X.K W (eOp f da db) σ H Q) : tOp r (liftE X.K W da) (liftE X.K W db) σ H Q := by
  obtain ⟨B, F, ρ, S, h⟩ := h
  refine liftE.of ma (Ex.refl _) S h fun x ρ1 h v F1 H1 e1 S1 r1 => ?_
  refine liftE.of mb e1 S1 h fun y ρ2 h w F2 H2 e2 S2 r2 => ?_
  exact hr.run S2 (r1.mono e2) r2 h fun z h u F' H' e3 S3 r3 => h u F' H' ((e1.trans e2).trans e3) S3 r3
theorem pd_op {op : Operator} {r : R2} {f : DOp} (ho : OpR X (binaryOp op) r) (hr : ROp X.K r f) (ha : PD X W a da) (hb : PD X W b db) : PD X W (.BinOp a op b pos) (eOp f da db) :=
  ⟨mono_op hr.mono ha.mono hb.mono, PE.imp (pe_op ho ha.run hb.run) fun σ H Q h => opT hr ha.mono hb.mono h⟩
theorem pd_cmp {op : CmpOp} {r : R2} {f : DOp} (ho : OpR X (compareOp op) r) (hr : ROp X.K r f) (ha : PD X W a da) (hb : PD X W b db) (hm : behindInMarks op b = false) : PD X W (.Compare a [op] [b] pos) (eOp f da db) :=
  ⟨mono_op hr.mono ha.mono hb.mono, PE.imp (pe_cmpR ho ha.run hb.run hm) fun σ H Q h => opT hr ha.mono hb.mono h⟩
def asB : D → (Bool → Prop) → Prop
  | .bool b, k => k b
  | _, _ => False
theorem asB.eq {d : D} {k : Bool → Prop} (h : asB d k) : ∃ b, d = .bool b ∧ k b := by
  cases d <;> first | exact ⟨_, rfl, h⟩ | exact h.elim
/-- a value that is a bool, as a test -/
def bV (de : DE) : DT := fun ρ X K => de ρ X fun d ρ' => asB d fun b => K b ρ'
theorem mono_bV (ma : MonoE da) : MonoT (bV da) := ⟨fun hx hk h => ma.go hx (fun d ρ h => by
  obtain ⟨b, rfl, q⟩ := asB.eq h
  exact hk _ _ q) h⟩
theorem liftT_bV (ma : MonoE da) {σ : L2.St} {H : Hp} {Q : Bool → Hp → Prop} (h : liftT X.K W (bV da) σ H Q) : liftE X.K W da σ H fun x H1 => ∃ c, x = .bl c ∧ Q c H1 := by
  obtain ⟨B, F, ρ, S, h⟩ := h
  refine liftE.of ma (Ex.refl _) S h fun d ρ1 h v F1 H1 e1 S1 r1 => ?_
  obtain ⟨b, rfl, q⟩ := asB.eq h
  exact ⟨b, r1.bool_inv, q F1 H1 e1 S1⟩
/-- any expression that gives a bool -/
theorem pdt_val {e : Expr} (h : PD X W e da) (he : ∀ whole, isTrue e X.env whole = (do let v ← whole; standAt e.pos; holding [v] (truthy v)) := by intro _; rfl) : PDT X W e (bV da) :=
  ⟨mono_bV h.mono, PT.imp (pt_val h.run he) fun σ H Q q => liftT_bV h.mono q⟩
theorem pdt_cmp {op : CmpOp} {r : R2} {f : DOp} (ho : OpR X (compareOp op) r) (hr : ROp X.K r f) (ha : PD X W a da) (hb : PD X W b db) (hm : behindInMarks op b = false) : PDT X W (.Compare a [op] [b] pos) (bV (eOp f da db)) :=
  ⟨mono_bV (mono_op hr.mono ha.mono hb.mono), PT.imp (pt_cmpR ho ha.run hb.run hm) fun σ H Q q => opT hr ha.mono hb.mono (by
    obtain ⟨B, F, ρ, S, h⟩ := q
    refine liftE.of (mono_op hr.mono ha.mono hb.mono) (Ex.refl _) S h fun d ρ1 h v F1 H1 e1 S1 r1 => ?_
    obtain ⟨b, rfl, q⟩ := asB.eq h
    exact ⟨b, r1.bool_inv, q F1 H1 e1 S1⟩)⟩

/-! ### the operators on data -/
def dAdd : DOp
  | .int i, .int j, P => P (.int (i + j))
  | .str x, .str y, P => x.length + y.length ≤ sizeLine ∧ P (.str (x ++ y))
  | .tuple xs, .tuple ys, P => xs.length + ys.length ≤ sizeLine ∧ P (.tuple (xs ++ ys))
  | .list xs, .list ys, P => xs.length + ys.length ≤ sizeLine ∧ P (.list (xs ++ ys))
  | _, _, _ => False
def rAddAll (K : PySem.W.Frag) : R2 := fun x y H Q => rI0 (fun i j => .int (i + j)) x y H Q ∨ ((∃ i j, x = .str i ∧ y = .str j ∧ i.length + j.length ≤ sizeLine ∧ Q (.str (i ++ j)) H) ∨ (rCatA K x y H Q ∨ rCat x y H Q))
theorem op_addAll : OpR X (binaryOp .Add) (rAddAll X.K) := op_add.or (op_add_str.or (op_catA.or op_cat))
theorem ro_add {K : PySem.W.Frag} : ROp K (rAddAll K) dAdd := by
  refine ⟨⟨fun {x y P P'} hp h => ?_⟩, fun {B F ρ σ H v w x y Q P} S rx ry h k => ?_⟩
  · cases x <;> cases y <;> first | exact hp _ h | exact ⟨h.1, hp _ h.2⟩ | exact h.elim
  · cases x <;> cases y <;> try exact h.elim
    · cases rx.int_inv
      cases ry.int_inv
      exact .inl ⟨_, _, rfl, rfl, k _ h _ F H (Ex.refl _) S (.int _)⟩
    · cases rx.str_inv
      cases ry.str_inv
      exact .inr (.inl ⟨_, _, rfl, rfl, h.1, k _ h.2 _ F H (Ex.refl _) S (.str _)⟩)
    · obtain ⟨a, vs, rfl, h1, r1⟩ := rx.list_inv
      obtain ⟨b, ws, rfl, h2, r2⟩ := ry.list_inv
      refine .inr (.inr (.inr ⟨a, b, vs, ws, rfl, rfl, S.ex.on h1, S.ex.on h2, by rw [r1.length, r2.length]; exact h.1, fun p hp => ?_⟩))
      obtain ⟨e, S'⟩ := S.alloc (o := .lst (vs ++ ws)) hp
      exact k _ h.2 _ _ _ e S' (.lst upd_same ((r1.append r2).mono e))
    · obtain ⟨a, vs, rfl, h1, r1⟩ := rx.tuple_inv
      obtain ⟨b, ws, rfl, h2, r2⟩ := ry.tuple_inv
      refine .inr (.inr (.inl ⟨a, b, vs, ws, rfl, rfl, xl_t S.ex h1, xl_t S.ex h2, by rw [r1.length, r2.length]; exact h.1, fun z => ?_, fun z1 z2 => ?_, fun z1 z2 p hp => ?_⟩))
      · subst z
        cases r1
        exact k _ h.2 _ F H (Ex.refl _) S ry
      · subst z2
        cases r2
        have h' := h.2
        rw [List.append_nil] at h'
        exact k _ h' _ F H (Ex.refl _) S rx
      · obtain ⟨e, S'⟩ := S.alloc (o := .tup (vs ++ ws)) hp
        exact k _ h.2 _ _ _ e S' (.tup upd_same ((r1.append r2).mono e))
def dII (C : Int → Int → Prop) (g : Int → Int → D) : DOp
  | .int i, .int j, P => C i j ∧ P (g i j)
  | _, _, _ => False
theorem mono_dII {C : Int → Int → Prop} {g : Int → Int → D} : MonoO (dII C g) := ⟨fun {x y P P'} hp h => by
  cases x <;> cases y <;> first | exact h.elim | exact ⟨h.1, hp _ h.2⟩⟩
theorem ro_int {K : PySem.W.Frag} {C : Int → Int → Prop} {g : Int → Int → Int} : ROp K (rI C fun i j => .int (g i j)) (dII C fun i j => .int (g i j)) := by
  refine ⟨mono_dII, fun {B F ρ σ H v w x y Q P} S rx ry h k => ?_⟩
  cases x <;> cases y <;> try exact h.elim
  cases rx.int_inv
  cases ry.int_inv
  exact ⟨_, _, rfl, rfl, h.1, k _ h.2 _ F H (Ex.refl _) S (.int _)⟩
def dI0 (g : Int → Int → D) : DOp
  | .int i, .int j, P => P (g i j)
  | _, _, _ => False
theorem mono_dI0 {g : Int → Int → D} : MonoO (dI0 g) := ⟨fun {x y P P'} hp h => by
  cases x <;> cases y <;> first | exact h.elim | exact hp _ h⟩
theorem ro_int0 {K : PySem.W.Frag} {g : Int → Int → Int} : ROp K (rI0 fun i j => .int (g i j)) (dI0 fun i j => .int (g i j)) := by
  refine ⟨mono_dI0, fun {B F ρ σ H v w x y Q P} S rx ry h k => ?_⟩
  cases x <;> cases y <;> try exact h.elim
  cases rx.int_inv
  cases ry.int_inv
  exact ⟨_, _, rfl, rfl, k _ h _ F H (Ex.refl _) S (.int _)⟩
theorem ro_boo0 {K : PySem.W.Frag} {g : Int → Int → Bool} : ROp K (rI0 fun i j => .bl (g i j)) (dI0 fun i j => .bool (g i j)) := by
  refine ⟨mono_dI0, fun {B F ρ σ H v w x y Q P} S rx ry h k => ?_⟩
  cases x <;> cases y <;> try exact h.elim
  cases rx.int_inv
  cases ry.int_inv
  exact ⟨_, _, rfl, rfl, k _ h _ F H (Ex.refl _) S (.bool _)⟩
abbrev dSub : DOp := dI0 fun i j => .int (i - j)
abbrev dFdiv : DOp := dII CDiv fun i j => .int (i / j)
abbrev dMod : DOp := dII (fun _ j => 0 < j) fun i j => .int (i % j)
abbrev dPow : DOp := dII CPow fun i j => .int (i ^ j.toNat)
abbrev dLt : DOp := dI0 fun i j => .bool (decide (i < j))
abbrev dLe : DOp := dI0 fun i j => .bool (decide (i ≤ j))
abbrev dGt : DOp := dI0 fun i j => .bool (decide (j < i))
abbrev dGe : DOp := dI0 fun i j => .bool (decide (j ≤ i))
/-- products: of ints; a list, a tuple some times -/
def dMul : DOp
  | .int i, .int j, P => CMul i j ∧ P (.int (i * j))
  | .list xs, .int k, P => (0 ≤ k ∧ k < 1000000 ∧ xs.length * k.toNat ≤ 1000000) ∧ P (.list (List.replicate k.toNat xs).flatten)
  | _, _, _ => False
def rMulAll : R2 := fun x y H Q => rI CMul (fun i j => .int (i * j)) x y H Q ∨ rRep x y H Q
theorem op_mulAll : OpR X (binaryOp .Mult) rMulAll := op_mul.or op_rep
theorem ro_mul {K : PySem.W.Frag} : ROp K rMulAll dMul := by
  refine ⟨⟨fun {x y P P'} hp h => ?_⟩, fun {B F ρ σ H v w x y Q P} S rx ry h k => ?_⟩
  · cases x <;> cases y <;> first | exact ⟨h.1, hp _ h.2⟩ | exact h.elim
  · cases x <;> cases y <;> try exact h.elim
    · cases rx.int_inv
      cases ry.int_inv
      exact .inl ⟨_, _, rfl, rfl, h.1, k _ h.2 _ F H (Ex.refl _) S (.int _)⟩
    · obtain ⟨a, vs, rfl, h1, r1⟩ := rx.list_inv
      cases ry.int_inv
      obtain ⟨⟨a1, a2, a3⟩, hp⟩ := h
      refine .inr ⟨a, _, vs, rfl, rfl, S.ex.on h1, by omega, by omega, ?_, fun p hp' => ?_⟩
      · rw [r1.length]; exact Nat.le_trans a3 (by rw [sizeLine_eq]; decide)
      · obtain ⟨e, S'⟩ := S.alloc (o := .lst (List.replicate _ vs).flatten) hp'
        exact k _ hp _ _ _ e S' (.lst upd_same ((r1.flatten_replicate _).mono e))
/-- is None -/
def isNoneD : D → Bool
  | .none => true
  | _ => false
def dIsN (neg : Bool) : DOp := fun x y P => match y with
  | .none => P (.bool (if neg then !isNoneD x else isNoneD x))
  | _ => False
theorem Rep.isNone {K : PySem.W.Frag} {F : Hp} {v : V} {d : D} (r : Rep K F v d) : decide (v = .non) = isNoneD d := by cases r <;> rfl
theorem ro_isN {K : PySem.W.Frag} : ROp K (fun x y H Q => y = .non ∧ Q (.bl (decide (x = .non))) H) (dIsN false) := by
  refine ⟨⟨fun {x y P P'} hp h => ?_⟩, fun {B F ρ σ H v w x y Q P} S rx ry h k => ?_⟩
  · cases y <;> first | exact hp _ h | exact h.elim
  · cases y <;> try exact h.elim
    refine ⟨ry.none_inv, ?_⟩
    rw [rx.isNone]
    exact k _ h _ F H (Ex.refl _) S (.bool _)
theorem ro_notN {K : PySem.W.Frag} : ROp K (fun x y H Q => y = .non ∧ Q (.bl (!decide (x = .non))) H) (dIsN true) := by
  refine ⟨⟨fun {x y P P'} hp h => ?_⟩, fun {B F ρ σ H v w x y Q P} S rx ry h k => ?_⟩
  · cases y <;> first | exact hp _ h | exact h.elim
  · cases y <;> try exact h.elim
    refine ⟨ry.none_inv, ?_⟩
    rw [rx.isNone]
    exact k _ h _ F H (Ex.refl _) S (.bool _)
/-- is True, is False (of bools) -/
def dIsB (neg : Bool) : DOp
  | .bool a, .bool b, P => P (.bool (if neg then !decide (a = b) else decide (a = b)))
  | _, _, _ => False
theorem mono_isB {neg : Bool} : MonoO (dIsB neg) := ⟨fun {x y P P'} hp h => by
  cases x <;> cases y <;> first | exact h.elim | exact hp _ h⟩
theorem ro_isB {K : PySem.W.Frag} : ROp K rIsB (dIsB false) := by
  refine ⟨mono_isB, fun {B F ρ σ H v w x y Q P} S rx ry h k => ?_⟩
  cases x <;> cases y <;> try exact h.elim
  cases rx.bool_inv
  cases ry.bool_inv
  exact ⟨_, _, rfl, rfl, k _ h _ F H (Ex.refl _) S (.bool _)⟩
theorem ro_notB {K : PySem.W.Frag} : ROp K rNotB (dIsB true) := by
  refine ⟨mono_isB, fun {B F ρ σ H v w x y Q P} S rx ry h k => ?_⟩
  cases x <;> cases y <;> try exact h.elim
  cases rx.bool_inv
  cases ry.bool_inv
  exact ⟨_, _, rfl, rfl, k _ h _ F H (Ex.refl _) S (.bool _)⟩
end

/-! ### == of data -/
mutual
def D.py : D → PyData
  | .none => .none
  | .bool b => .bool b
  | .int i => .int i
  | .str s => .str s
  | .list xs => .list (pys xs)
  | .tuple xs => .tuple (pys xs)
  | .rol xs => .list (pys xs)
  | .dict _ => .none
  | .dictT _ => .none
  | .dictN _ => .none
  | .ob _ _ _ => .none
  | .exn _ _ _ _ _ => .none
def pys : List D → List PyData
  | [] => []
  | x :: xs => x.py :: pys xs
end
mutual
/-- no dict, no object in it; of depth n at most -/
def D.ok : Nat → D → Bool
  | _, .none => true
  | _, .bool _ => true
  | _, .int _ => true
  | _, .str s => PyData.strOk s
  | n, .list xs => match n with
    | 0 => false
    | n + 1 => oks n xs
  | n, .tuple xs => match n with
    | 0 => false
    | n + 1 => oks n xs
  | n, .rol xs => match n with
    | 0 => false
    | n + 1 => oks n xs
  | _, .dict _ => false
  | _, .dictT _ => false
  | _, .dictN _ => false
  | _, .ob _ _ _ => false
  | _, .exn _ _ _ _ _ => false
def oks : Nat → List D → Bool
  | _, [] => true
  | n, x :: xs => D.ok n x && oks n xs
end
section
variable {K : PySem.W.Frag} {F : Hp}
mutual
theorem Rep.dp : ∀ {d : D} {n : Nat} {v : V}, D.ok n d = true → Rep K F v d → Dp K F v d.py
  | .none, _, _, _, r => by cases r; exact .non
  | .bool _, _, _, _, r => by cases r; exact .bl _
  | .int _, _, _, _, r => by cases r; exact .int _
  | .str _, _, _, _, r => by cases r; exact .str _
  | .list xs, 0, _, h, _ => by simp [D.ok] at h
  | .list xs, n + 1, _, h, r => by
    obtain ⟨a, vs, rfl, h1, r1⟩ := r.list_inv
    exact .lst (.inl (.inl h1)) (Reps.dp (n := n) (by simpa [D.ok] using h) r1)
  | .tuple xs, 0, _, h, _ => by simp [D.ok] at h
  | .tuple xs, n + 1, _, h, r => by
    obtain ⟨a, vs, rfl, h1, r1⟩ := r.tuple_inv
    exact .tup h1 (Reps.dp (n := n) (by simpa [D.ok] using h) r1)
  | .rol xs, 0, _, h, _ => by simp [D.ok] at h
  | .rol xs, n + 1, _, h, r => by
    obtain ⟨a, vs, rfl, h1, r1⟩ := r.rol_inv
    exact .lst h1 (Reps.dp (n := n) (by simpa [D.ok] using h) r1)
  | .dict _, _, _, h, _ => by simp [D.ok] at h
  | .dictT _, _, _, h, _ => by simp [D.ok] at h
  | .dictN _, _, _, h, _ => by simp [D.ok] at h
  | .ob _ _ _, _, _, h, _ => by simp [D.ok] at h
  | .exn _ _ _ _ _, _, _, h, _ => by simp [D.ok] at h
theorem Reps.dp : ∀ {ds : List D} {n : Nat} {vs : List V}, oks n ds = true → Reps K F vs ds → DpAll K F vs (pys ds)
  | [], _, _, _, r => by cases r; exact .nil
  | d :: ds, n, _, h, r => by
    cases r with
    | cons r t =>
      simp only [oks, Bool.and_eq_true] at h
      exact .cons (Rep.dp h.1 r) (Reps.dp h.2 t)
end
end
mutual
theorem ok_lay : ∀ {d : D} {n : Nat}, D.ok n d = true → d.py.canLay0 = true ∧ d.py.depth ≤ n
  | .none, _, _ => by simp [D.py, PyData.canLay0, PyData.depth]
  | .bool _, _, _ => by simp [D.py, PyData.canLay0, PyData.depth]
  | .int _, _, _ => by simp [D.py, PyData.canLay0, PyData.depth]
  | .str _, _, h => by
    have h' : PyData.strOk _ = true := h
    simp [D.py, PyData.canLay0, PyData.depth, h']
  | .list xs, 0, h => by simp [D.ok] at h
  | .list xs, n + 1, h => by
    have := oks_lay (ds := xs) (n := n) (by simpa [D.ok] using h)
    simp [D.py, PyData.canLay0, PyData.depth, this.1]; omega
  | .tuple xs, 0, h => by simp [D.ok] at h
  | .tuple xs, n + 1, h => by
    have := oks_lay (ds := xs) (n := n) (by simpa [D.ok] using h)
    simp [D.py, PyData.canLay0, PyData.depth, this.1]; omega
  | .rol xs, 0, h => by simp [D.ok] at h
  | .rol xs, n + 1, h => by
    have := oks_lay (ds := xs) (n := n) (by simpa [D.ok] using h)
    simp [D.py, PyData.canLay0, PyData.depth, this.1]; omega
  | .dict _, _, h => by simp [D.ok] at h
  | .dictT _, _, h => by simp [D.ok] at h
  | .dictN _, _, h => by simp [D.ok] at h
  | .ob _ _ _, _, h => by simp [D.ok] at h
  | .exn _ _ _ _ _, _, h => by simp [D.ok] at h
theorem oks_lay : ∀ {ds : List D} {n : Nat}, oks n ds = true → PyData.canLayAll0 (pys ds) = true ∧ PyData.depthAll (pys ds) ≤ n
  | [], _, _ => by simp [pys, PyData.canLayAll0, PyData.depthAll]
  | d :: ds, n, h => by
    simp only [oks, Bool.and_eq_true] at h
    have h1 := ok_lay h.1
    have h2 := oks_lay h.2
    simp [pys, PyData.canLayAll0, PyData.depthAll, h1.1, h2.1]; omega
end
theorem ok_shaped {d : D} (h : D.ok 60 d = true) : SeqAt.shaped d.py = true := by
  have := ok_lay h
  unfold SeqAt.shaped
  rw [this.1, Bool.true_and]
  exact decide_eq_true (by omega)
def deq (x y : D) : Bool := PyData.eqv x.py y.py
def dEqD (neg : Bool) : DOp := fun x y P => (D.ok 60 x = true ∧ D.ok 60 y = true) ∧ P (.bool (if neg then !deq x y else deq x y))
theorem mono_eqD {neg : Bool} : MonoO (dEqD neg) := ⟨fun {x y P P'} hp h => ⟨h.1, hp _ h.2⟩⟩
theorem Dp.mono {K : PySem.W.Frag} {F H : Hp} (e : ExL F H) : ∀ {v : V} {d : PyData}, Dp K F v d → Dp K H v d := by
  intro v d h
  refine Dp.rec (motive_1 := fun v d _ => Dp K H v d) (motive_2 := fun vs ds _ => DpAll K H vs ds) ?_ ?_ ?_ ?_ ?_ ?_ ?_ ?_ h
  · exact .non
  · exact fun b => .bl b
  · exact fun i => .int i
  · exact fun x => .str x
  · exact fun h1 _ ih => .lst (xl_l e h1) ih
  · exact fun h1 _ ih => .tup (xl_t e h1) ih
  · exact .nil
  · exact fun _ _ ih1 ih2 => .cons ih1 ih2
theorem ro_eq {K : PySem.W.Frag} : ROp K (rEqD K) (dEqD false) := by
  refine ⟨mono_eqD, fun {B F ρ σ H v w x y Q P} S rx ry h k => ?_⟩
  exact ⟨x.py, y.py, Dp.mono S.ex (rx.dp h.1.1), Dp.mono S.ex (ry.dp h.1.2), ok_shaped h.1.1, ok_shaped h.1.2, k _ h.2 _ F H (Ex.refl _) S (.bool _)⟩
theorem ro_ne {K : PySem.W.Frag} : ROp K (rNeD K) (dEqD true) := by
  refine ⟨mono_eqD, fun {B F ρ σ H v w x y Q P} S rx ry h k => ?_⟩
  exact ⟨x.py, y.py, Dp.mono S.ex (rx.dp h.1.1), Dp.mono S.ex (ry.dp h.1.2), ok_shaped h.1.1, ok_shaped h.1.2, k _ h.2 _ F H (Ex.refl _) S (.bool _)⟩
end DL
set_option Elab.async false
set_option linter.all false
set_option maxRecDepth 100000
set_option maxHeartbeats 1000000
/-! DL3: tests, displays, subscripts, fields, calls. -/
namespace DL
open PySem L2 Evl
variable [Tbs]
section
variable {X : Cx} {W : WX} {a b c : Expr} {da db dc' : DE} {ta tb : DT} {rest : List Expr} {pos : Pos}

/-! ### and, or, not, if -/
def bAnd (t u : DT) : DT := fun ρ X K => t ρ X fun c ρ1 => if c = true then u ρ1 X K else K false ρ1
def bOr (t u : DT) : DT := fun ρ X K => t ρ X fun c ρ1 => if c = true then K true ρ1 else u ρ1 X K
def bNot (t : DT) : DT := fun ρ X K => t ρ X fun c ρ1 => K (!c) ρ1
theorem mono_bAnd (m1 : MonoT ta) (m2 : MonoT tb) : MonoT (bAnd ta tb) := ⟨fun hx hk h => m1.go hx (fun c ρ h => by
  cases c with
  | true => exact m2.go hx hk h
  | false => exact hk _ _ h) h⟩
theorem mono_bOr (m1 : MonoT ta) (m2 : MonoT tb) : MonoT (bOr ta tb) := ⟨fun hx hk h => m1.go hx (fun c ρ h => by
  cases c with
  | false => exact m2.go hx hk h
  | true => exact hk _ _ h) h⟩
theorem mono_bNot (m1 : MonoT ta) : MonoT (bNot ta) := ⟨fun hx hk h => m1.go hx (fun c ρ h => hk _ _ h) h⟩
theorem pdw_and1 (h : PDT X W a ta) : PDW X W (.BoolOp .And [a] pos) ta := ⟨h.mono, pw_and1 h.run⟩
theorem pdw_or1 (h : PDT X W a ta) : PDW X W (.BoolOp .Or [a] pos) ta := ⟨h.mono, pw_or1 h.run⟩
theorem pdw_and (h1 : PDT X W a ta) (h2 : PDW X W (.BoolOp .And (b :: rest) pos) tb) : PDW X W (.BoolOp .And (a :: b :: rest) pos) (bAnd ta tb) :=
  ⟨mono_bAnd h1.mono h2.mono, PW.imp (pw_and h1.run h2.run) fun σ H Q ⟨B, F, ρ, S, h⟩ => liftT.of h1.mono (Ex.refl _) S h fun c ρ1 h F1 H1 e1 S1 => by
    cases c with
    | true => exact liftT.of h2.mono e1 S1 h fun c ρ2 h F2 H2 e2 S2 => h F2 H2 (e1.trans e2) S2
    | false => exact h F1 H1 e1 S1⟩
theorem pdw_or (h1 : PDT X W a ta) (h2 : PDW X W (.BoolOp .Or (b :: rest) pos) tb) : PDW X W (.BoolOp .Or (a :: b :: rest) pos) (bOr ta tb) :=
  ⟨mono_bOr h1.mono h2.mono, PW.imp (pw_or h1.run h2.run) fun σ H Q ⟨B, F, ρ, S, h⟩ => liftT.of h1.mono (Ex.refl _) S h fun c ρ1 h F1 H1 e1 S1 => by
    cases c with
    | false => exact liftT.of h2.mono e1 S1 h fun c ρ2 h F2 H2 e2 S2 => h F2 H2 (e1.trans e2) S2
    | true => exact h F1 H1 e1 S1⟩
theorem pdt_w (h : PDW X W a ta) : PDT X W a ta := ⟨h.mono, PW.pt h.run⟩
theorem pdt_not (h : PDT X W a ta) : PDT X W (.UnaryOp .Not a pos) (bNot ta) :=
  ⟨mono_bNot h.mono, PT.imp (pt_not h.run) fun σ H Q ⟨B, F, ρ, S, h'⟩ => liftT.of h.mono (Ex.refl _) S h' fun c ρ1 h F1 H1 e1 S1 => h F1 H1 e1 S1⟩
/-- the same as values -/
def eAnd (da db : DE) : DE := fun ρ X K => da ρ X fun d ρ1 => asB d fun c => if c = true then db ρ1 X K else K (.bool false) ρ1
def eOr (da db : DE) : DE := fun ρ X K => da ρ X fun d ρ1 => asB d fun c => if c = true then K (.bool true) ρ1 else db ρ1 X K
def eNot (da : DE) : DE := fun ρ X K => da ρ X fun d ρ1 => asB d fun c => K (.bool (!c)) ρ1
theorem mono_eAnd (m1 : MonoE da) (m2 : MonoE db) : MonoE (eAnd da db) := ⟨fun hx hk h => m1.go hx (fun d ρ h => by
  obtain ⟨c, rfl, h⟩ := asB.eq h
  cases c with
  | true => exact m2.go hx hk h
  | false => exact hk _ _ h) h⟩
theorem mono_eOr (m1 : MonoE da) (m2 : MonoE db) : MonoE (eOr da db) := ⟨fun hx hk h => m1.go hx (fun d ρ h => by
  obtain ⟨c, rfl, h⟩ := asB.eq h
  cases c with
  | false => exact m2.go hx hk h
  | true => exact hk _ _ h) h⟩
theorem mono_eNot (m1 : MonoE da) : MonoE (eNot da) := ⟨fun hx hk h => m1.go hx (fun d ρ h => by
  obtain ⟨c, rfl, h⟩ := asB.eq h
  exact hk _ _ h) h⟩
theorem pd_one {op} (h : PD X W a da) : PD X W (.BoolOp op [a] pos) da := ⟨h.mono, pe_one h.run⟩
theorem pd_and (h1 : PD X W a da) (h2 : PD X W (.BoolOp .And (b :: rest) pos) db) : PD X W (.BoolOp .And (a :: b :: rest) pos) (eAnd da db) :=
  ⟨mono_eAnd h1.mono h2.mono, PE.imp (pe_and h1.run h2.run) fun σ H Q ⟨B, F, ρ, S, h⟩ => liftE.of h1.mono (Ex.refl _) S h fun d ρ1 h v F1 H1 e1 S1 r1 => by
    obtain ⟨c, rfl, h⟩ := asB.eq h
    refine ⟨c, r1.bool_inv, ?_⟩
    cases c with
    | true => exact liftE.of h2.mono e1 S1 h fun c ρ2 h v F2 H2 e2 S2 r2 => h v F2 H2 (e1.trans e2) S2 r2
    | false => exact h _ F1 H1 e1 S1 (.bool false)⟩
theorem pd_or (h1 : PD X W a da) (h2 : PD X W (.BoolOp .Or (b :: rest) pos) db) : PD X W (.BoolOp .Or (a :: b :: rest) pos) (eOr da db) :=
  ⟨mono_eOr h1.mono h2.mono, PE.imp (pe_or h1.run h2.run) fun σ H Q ⟨B, F, ρ, S, h⟩ => liftE.of h1.mono (Ex.refl _) S h fun d ρ1 h v F1 H1 e1 S1 r1 => by
    obtain ⟨c, rfl, h⟩ := asB.eq h
    refine ⟨c, r1.bool_inv, ?_⟩
    cases c with
    | false => exact liftE.of h2.mono e1 S1 h fun c ρ2 h v F2 H2 e2 S2 r2 => h v F2 H2 (e1.trans e2) S2 r2
    | true => exact h _ F1 H1 e1 S1 (.bool true)⟩
theorem pd_not (h1 : PD X W a da) : PD X W (.UnaryOp .Not a pos) (eNot da) :=
  ⟨mono_eNot h1.mono, PE.imp (pe_not h1.run) fun σ H Q ⟨B, F, ρ, S, h⟩ => liftE.of h1.mono (Ex.refl _) S h fun d ρ1 h v F1 H1 e1 S1 r1 => by
    obtain ⟨c, rfl, h⟩ := asB.eq h
    exact ⟨c, r1.bool_inv, h _ F1 H1 e1 S1 (.bool _)⟩⟩
/-- a test as a value -/
def eNeg (da : DE) : DE := fun ρ X K => da ρ X fun d ρ1 => match d with
  | .int i => K (.int (-i)) ρ1
  | _ => False
theorem mono_eNeg (m1 : MonoE da) : MonoE (eNeg da) := ⟨fun hx hk h => m1.go hx (fun d ρ h => by
  cases d <;> first | exact hk _ _ h | exact h.elim) h⟩
theorem pd_neg (h1 : PD X W a da) : PD X W (.UnaryOp .USub a pos) (eNeg da) :=
  ⟨mono_eNeg h1.mono, PE.imp (pe_un un_neg h1.run) fun σ H Q ⟨B, F, ρ, S, h⟩ => liftE.of h1.mono (Ex.refl _) S h fun d ρ1 h v F1 H1 e1 S1 r1 => by
    cases d <;> try exact h.elim
    cases r1.int_inv
    exact ⟨_, rfl, h _ F1 H1 e1 S1 (.int _)⟩⟩
def eIf (t : DT) (da db : DE) : DE := fun ρ X K => t ρ X fun c ρ1 => if c = true then da ρ1 X K else db ρ1 X K
theorem mono_eIf (m : MonoT ta) (m1 : MonoE da) (m2 : MonoE db) : MonoE (eIf ta da db) := ⟨fun hx hk h => m.go hx (fun c ρ h => by
  cases c with
  | true => exact m1.go hx hk h
  | false => exact m2.go hx hk h) h⟩
theorem pd_ifExp (h : PDT X W c ta) (h1 : PD X W a da) (h2 : PD X W b db) : PD X W (.IfExp c a b pos) (eIf ta da db) :=
  ⟨mono_eIf h.mono h1.mono h2.mono, PE.imp (pe_ifExp h.run h1.run h2.run) fun σ H Q ⟨B, F, ρ, S, h'⟩ => liftT.of h.mono (Ex.refl _) S h' fun c ρ1 h F1 H1 e1 S1 => by
    cases c with
    | true => exact liftE.of h1.mono e1 S1 h fun c ρ2 h v F2 H2 e2 S2 r2 => h v F2 H2 (e1.trans e2) S2 r2
    | false => exact liftE.of h2.mono e1 S1 h fun c ρ2 h v F2 H2 e2 S2 r2 => h v F2 H2 (e1.trans e2) S2 r2⟩
/-- a < b < c -/
def eChain (f f' : DOp) (da db dc : DE) : DE := fun ρ X K => da ρ X fun x ρ1 => db ρ1 X fun y ρ2 => f x y fun z => asB z fun k => if k = true then dc ρ2 X fun w ρ3 => f' y w fun u => K u ρ3 else K (.bool false) ρ2
theorem mono_eChain {f f' : DOp} (mf : MonoO f) (mf' : MonoO f') (m1 : MonoE da) (m2 : MonoE db) (m3 : MonoE dc') : MonoE (eChain f f' da db dc') := ⟨fun hx hk h => m1.go hx (fun x ρ h => m2.go hx (fun y ρ h => mf.go (fun z h => by
  obtain ⟨c, rfl, h⟩ := asB.eq h
  cases c with
  | true => exact m3.go hx (fun w ρ h => mf'.go (fun u h => hk _ _ h) h) h
  | false => exact hk _ _ h) h) h) h⟩
theorem pd_chain {op op' : CmpOp} {r r' : R2} {f f' : DOp} (ho : OpR X (compareOp op) r) (hr : ROp X.K r f) (ho' : OpR X (compareOp op') r') (hr' : ROp X.K r' f') (ha : PD X W a da) (hb : PD X W b db) (hc : PD X W c dc')
    (hm : lastMarks [op, op'] [b, c] = false := by with_unfolding_all rfl) : PD X W (.Compare a [op, op'] [b, c] pos) (eChain f f' da db dc') :=
  ⟨mono_eChain hr.mono hr'.mono ha.mono hb.mono hc.mono, PE.imp (pe_chain ho ho' ha.run hb.run hc.run hm) fun σ H Q ⟨B, F, ρ, S, h⟩ => liftE.of ha.mono (Ex.refl _) S h fun x ρ1 h v F1 H1 e1 S1 r1 =>
    liftE.of hb.mono e1 S1 h fun y ρ2 h w F2 H2 e2 S2 r2 => hr.run S2 (r1.mono e2) r2 h fun z h u F3 H3 e3 S3 r3 => by
      obtain ⟨k, rfl, h⟩ := asB.eq h
      refine ⟨k, r3.bool_inv, ?_⟩
      cases k with
      | true => exact liftE.of hc.mono ((e1.trans e2).trans e3) S3 h fun w' ρ3 h v' F4 H4 e4 S4 r4 => hr'.run S4 ((r2.mono e3).mono e4) r4 h fun z h u F' H' e5 S5 r5 => h u F' H' ((((e1.trans e2).trans e3).trans e4).trans e5) S5 r5
      | false => exact h _ F3 H3 ((e1.trans e2).trans e3) S3 (.bool false)⟩
theorem pdt_chain {op op' : CmpOp} {r r' : R2} {f f' : DOp} (ho : OpR X (compareOp op) r) (hr : ROp X.K r f) (ho' : OpR X (compareOp op') r') (hr' : ROp X.K r' f') (ha : PD X W a da) (hb : PD X W b db) (hc : PD X W c dc')
    (hm : lastMarks [op, op'] [b, c] = false := by with_unfolding_all rfl) : PDT X W (.Compare a [op, op'] [b, c] pos) (bV (eChain f f' da db dc')) := by
  refine ⟨mono_bV (mono_eChain hr.mono hr'.mono ha.mono hb.mono hc.mono), PT.imp (pt_chain ho ho' ha.run hb.run hc.run hm) fun σ H Q h => ?_⟩
  have h' := liftT_bV (mono_eChain hr.mono hr'.mono ha.mono hb.mono hc.mono) h
  obtain ⟨B, F, ρ, S, h⟩ := h'
  show tTest _ _ _ _
  refine liftE.of ha.mono (Ex.refl _) S h fun x ρ1 h v F1 H1 e1 S1 r1 =>
    liftE.of hb.mono e1 S1 h fun y ρ2 h w F2 H2 e2 S2 r2 => hr.run S2 (r1.mono e2) r2 h fun z h u F3 H3 e3 S3 r3 => ?_
  obtain ⟨k, rfl, h⟩ := asB.eq h
  refine ⟨k, r3.bool_inv, ?_⟩
  cases k with
  | true => exact liftE.of hc.mono ((e1.trans e2).trans e3) S3 h fun w' ρ3 h v' F4 H4 e4 S4 r4 => hr'.run S4 ((r2.mono e3).mono e4) r4 h fun z h u F' H' e5 S5 r5 => h u F' H' ((((e1.trans e2).trans e3).trans e4).trans e5) S5 r5
  | false => exact h _ F3 H3 ((e1.trans e2).trans e3) S3 (.bool false)

/-! ### arguments, displays -/
def aNil : DAs := fun ρ _ K => K [] ρ
def aCons (de : DE) (das : DAs) : DAs := fun ρ X K => de ρ X fun x ρ1 => das ρ1 X fun xs ρ2 => K (.d x :: xs) ρ2
/-- the slot i is lent -/
def aBor (i : Nat) (das : DAs) : DAs := fun ρ X K => isOw (gt ρ i) = true ∧ das ρ X fun xs ρ2 => K (.bor i :: xs) ρ2
variable {das : DAs} {es : List Expr}
theorem mono_aNil : MonoA aNil := ⟨fun hx hk h => hk _ _ h⟩
theorem mono_aCons (m1 : MonoE da) (m2 : MonoA das) : MonoA (aCons da das) := ⟨fun hx hk h => m1.go hx (fun x ρ h => m2.go hx (fun xs ρ h => hk _ _ h) h) h⟩
theorem mono_aBor {i : Nat} (m2 : MonoA das) : MonoA (aBor i das) := ⟨fun hx hk h => ⟨h.1, m2.go hx (fun xs ρ h => hk _ _ h) h.2⟩⟩
theorem pda_nil : PDA X W [] aNil := ⟨mono_aNil, PA.imp pa_nil fun σ H Q ⟨B, F, ρ, S, h⟩ => h [] F H (Ex.refl _) S trivial⟩
theorem pda_cons (h1 : PD X W a da) (h2 : PDA X W es das) (hs : starEach (a :: es) X.env = (false, eval a X.env) :: starEach es X.env := by rfl) : PDA X W (a :: es) (aCons da das) :=
  ⟨mono_aCons h1.mono h2.mono, PA.imp (pa_cons h1.run h2.run hs) fun σ H Q ⟨B, F, ρ, S, h⟩ => liftE.of h1.mono (Ex.refl _) S h fun x ρ1 h v F1 H1 e1 S1 r1 =>
    liftA.of h2.mono e1 S1 h fun xs ρ2 h vs F2 H2 e2 S2 r2 => h (v :: vs) F2 H2 (e1.trans e2) S2 ⟨r1.mono e2, r2⟩⟩
theorem pda_bor (i : Nat) {x : Str} {p : Pos} (h2 : PDA X W es das) (hN : X.N[i]? = some x := by rfl) (hv : Vis X.env.scope x := by first | exact Or.inl rfl | exact Or.inr (Or.inl rfl) | exact Or.inr (Or.inr rfl)) (hd : (x == ("__debug__" : Str)) = false := by decide)
    (hcd : (x == ("__classdict__" : Str)) = false := by decide) (hs : starEach (.Name x p :: es) X.env = (false, eval (.Name x p) X.env) :: starEach es X.env := by rfl) : PDA X W (.Name x p :: es) (aBor i das) := by
  refine ⟨mono_aBor h2.mono, PA.imp (pa_cons (pe_var (i := i) hN hv hd hcd) h2.run hs) fun σ H Q ⟨B, F, ρ, S, h⟩ => ?_⟩
  have h1 : isOw (gt ρ i) = true := h.1
  cases hs : gt ρ i with
  | un => rw [hs] at h1; cases h1
  | fz d => rw [hs] at h1; cases h1
  | ow b' c' =>
    obtain ⟨a, ha, _⟩ := S.ow hs
    exact ⟨_, ha, liftA.of h2.mono (Ex.refl _) S h.2 fun xs ρ2 h vs F2 H2 e2 S2 r2 => h (_ :: vs) F2 H2 e2 S2 ⟨ha, r2⟩⟩
end
end DL
set_option Elab.async false
set_option linter.all false
set_option maxRecDepth 100000
set_option maxHeartbeats 1000000
/-! DL4: displays, subscripts, fields, built-ins, calls of defs. -/
namespace DL
open PySem L2 Evl
variable [Tbs]
section
variable {X : Cx} {W : WX} {a b c e : Expr} {da db dc' : DE} {das : DAs} {es : List Expr} {pos : Pos}
theorem le_line {n : Nat} (h : n ≤ 1000000) : n ≤ sizeLine := Nat.le_trans h (by rw [sizeLine_eq]; decide)
def allD : List AV → (List D → Prop) → Prop
  | [], k => k []
  | .d x :: as, k => allD as fun xs => k (x :: xs)
  | .bor _ :: _, _ => False
theorem allD.mono : ∀ {as : List AV} {k k' : List D → Prop}, (∀ xs, k xs → k' xs) → allD as k → allD as k'
  | [], _, _, hk, h => hk _ h
  | .d x :: as, _, _, hk, h => allD.mono (as := as) (fun xs h => hk _ h) h
  | .bor _ :: _, _, _, _, h => h.elim
theorem allD.reps {K : PySem.W.Frag} {F : Hp} {σ : L2.St} : ∀ {as : List AV} {vs : List V} {k : List D → Prop}, AvR K F σ vs as → allD as k → ∃ ds, Reps K F vs ds ∧ k ds
  | [], [], _, _, h => ⟨[], .nil, h⟩
  | .d x :: as, v :: vs, _, r, h => by
    obtain ⟨ds, r2, q⟩ := allD.reps r.2 h
    exact ⟨x :: ds, .cons r.1 r2, q⟩
  | .bor _ :: _, _, _, _, h => h.elim
  | [], _ :: _, _, r, _ => r.elim
  | .d _ :: _, [], _, r, _ => r.elim
def eTup (das : DAs) : DE := fun ρ X K => das ρ X fun as ρ' => allD as fun ds => ds.length ≤ 1000000 ∧ K (.tuple ds) ρ'
def eLst (das : DAs) : DE := fun ρ X K => das ρ X fun as ρ' => allD as fun ds => ds.length ≤ 1000000 ∧ K (.list ds) ρ'
theorem mono_eTup (m : MonoA das) : MonoE (eTup das) := ⟨fun hx hk h => m.go hx (fun as ρ h => allD.mono (fun xs h => ⟨h.1, hk _ _ h.2⟩) h) h⟩
theorem mono_eLst (m : MonoA das) : MonoE (eLst das) := ⟨fun hx hk h => m.go hx (fun as ρ h => allD.mono (fun xs h => ⟨h.1, hk _ _ h.2⟩) h) h⟩
theorem pd_tup {x1} (h : PDA X W es das) : PD X W (.Tuple es x1 pos) (eTup das) :=
  ⟨mono_eTup h.mono, PE.imp (pe_tup h.run) fun σ H Q ⟨B, F, ρ, S, q⟩ => liftA.of h.mono (Ex.refl _) S q fun as ρ1 h vs F1 H1 e1 S1 r1 => by
    obtain ⟨ds, r, hl, q⟩ := allD.reps r1 h
    refine ⟨by rw [r.length]; exact le_line hl, fun p hp => ?_⟩
    obtain ⟨e2, S2⟩ := S1.alloc (o := .tup vs) hp
    exact q _ _ _ (e1.trans e2) S2 (.tup upd_same (r.mono e2))⟩
theorem pd_lst (h : PDA X W es das) : PD X W (.List es pos) (eLst das) :=
  ⟨mono_eLst h.mono, PE.imp (pe_lst h.run) fun σ H Q ⟨B, F, ρ, S, q⟩ => liftA.of h.mono (Ex.refl _) S q fun as ρ1 h vs F1 H1 e1 S1 r1 => by
    obtain ⟨ds, r, hl, q⟩ := allD.reps r1 h
    refine ⟨by rw [r.length]; exact le_line hl, fun p hp => ?_⟩
    obtain ⟨e2, S2⟩ := S1.alloc (o := .lst vs) hp
    exact q _ _ _ (e1.trans e2) S2 (.lst upd_same (r.mono e2))⟩

/-! ### subscripts -/
def dIx : DOp
  | .list xs, .int i, P => ∃ d, atI xs i = some d ∧ P d
  | .tuple xs, .int i, P => ∃ d, atI xs i = some d ∧ P d
  | .rol xs, .int i, P => ∃ d, atI xs i = some d ∧ P d
  | _, _, _ => False
theorem atI_reps {K : PySem.W.Frag} {F : Hp} {vs : List V} {ds : List D} (r : Reps K F vs ds) {i : Int} {d : D} (h : atI ds i = some d) : ∃ v, atI vs i = some v ∧ Rep K F v d := by
  unfold atI at h ⊢
  rw [r.length]
  cases hi : ixN ds.length i with
  | none => rw [hi] at h; cases h
  | some j =>
    rw [hi] at h
    obtain ⟨v, hv, rv⟩ := r.get_some (show ds[j]? = some d from h)
    exact ⟨v, hv, rv⟩
theorem ri_ix {K : PySem.W.Frag} : ROp K (rIx K) dIx := by
  refine ⟨⟨fun {x y P P'} hp h => ?_⟩, fun {B F ρ σ H v w x y Q P} S rx ry h k => ?_⟩
  · cases x <;> cases y <;> first | exact h.elim | (obtain ⟨d, h1, h2⟩ := h; exact ⟨d, h1, hp _ h2⟩)
  · cases x <;> cases y <;> try exact h.elim
    · obtain ⟨d, h1, h2⟩ := h
      obtain ⟨p, vs, rfl, e1, r⟩ := rx.list_inv
      cases ry.int_inv
      obtain ⟨u, hu, ru⟩ := atI_reps r h1
      exact .inl ⟨p, vs, _, u, rfl, rfl, .inl (.inl (S.ex.on e1)), hu, k _ h2 u F H (Ex.refl _) S ru⟩
    · obtain ⟨d, h1, h2⟩ := h
      obtain ⟨p, vs, rfl, e1, r⟩ := rx.tuple_inv
      cases ry.int_inv
      obtain ⟨u, hu, ru⟩ := atI_reps r h1
      exact .inr (.inl ⟨p, vs, _, u, rfl, rfl, xl_t S.ex e1, hu, k _ h2 u F H (Ex.refl _) S ru⟩)
    · obtain ⟨d, h1, h2⟩ := h
      obtain ⟨p, vs, rfl, e1, r⟩ := rx.rol_inv
      cases ry.int_inv
      obtain ⟨u, hu, ru⟩ := atI_reps r h1
      exact .inl ⟨p, vs, _, u, rfl, rfl, xl_l S.ex e1, hu, k _ h2 u F H (Ex.refl _) S ru⟩
theorem pd_ix (ha : PD X W a da) (hb : PD X W b db) (hs : PlainIx b) : PD X W (.Subscript a b pos) (eOp dIx da db) :=
  ⟨mono_op (ri_ix (K := X.K)).mono ha.mono hb.mono, PE.imp (pe_ix ix_seq ha.run hb.run hs) fun σ H Q h => opT ri_ix ha.mono hb.mono h⟩
/-- the slot's owned list, read by an index -/
def ofLst : Sl → (List D → Prop) → Prop
  | .ow _ (.lst ds), k => k ds
  | _, _ => False
theorem ofLst.eq {s : Sl} {k : List D → Prop} (h : ofLst s k) : ∃ b ds, s = .ow b (.lst ds) ∧ k ds := by
  cases s with
  | un => exact h.elim
  | fz d => exact h.elim
  | ow b c => cases c <;> first | exact ⟨_, _, rfl, h⟩ | exact h.elim
theorem St.lstAt {K : PySem.W.Frag} {B : Base} {F : Hp} {ρ : Env} {σ : L2.St} {H : Hp} (S : St K B F ρ σ H) {i : Nat} {b : Bool} {ds : List D} (h : gt ρ i = .ow b (.lst ds)) : ∃ p vs, σ[i]? = some (some (.ref p)) ∧ H p = some (.lst vs) ∧ Reps K F vs ds := by
  obtain ⟨p, e1, ⟨_, _, o, ho, hc⟩, _⟩ := S.ow h
  obtain ⟨vs, rfl, r⟩ := hc
  exact ⟨p, vs, e1, ho, r⟩
def eIxS (i : Nat) (db : DE) : DE := fun ρ X K => isOw (gt ρ i) = true ∧ db ρ X fun k ρ1 => match k with
  | .int j => ofLst (gt ρ1 i) fun ds => ∃ d, atI ds j = some d ∧ K d ρ1
  | _ => False
theorem St.isOw_ref {K : PySem.W.Frag} {B : Base} {F : Hp} {ρ : Env} {σ : L2.St} {H : Hp} (S : St K B F ρ σ H) {i : Nat} (h : isOw (gt ρ i) = true) : ∃ p, σ[i]? = some (some (.ref p)) := by
  cases hs : gt ρ i with
  | un => rw [hs] at h; cases h
  | fz d => rw [hs] at h; cases h
  | ow b c => obtain ⟨a, ha, _⟩ := S.ow hs; exact ⟨a, ha⟩
theorem mono_eIxS {i : Nat} (m : MonoE db) : MonoE (eIxS i db) := ⟨fun hx hk h => ⟨h.1, m.go hx (fun k ρ h => by
  cases k <;> try exact h.elim
  obtain ⟨b, ds, e, d, h1, h2⟩ := ofLst.eq h
  show ofLst _ _
  rw [e]
  exact ⟨d, h1, hk _ _ h2⟩) h.2⟩⟩
theorem pd_ixS (i : Nat) {x : Str} {p : Pos} (hb : PD X W b db) (hs : PlainIx b) (hN : X.N[i]? = some x := by rfl) (hv : Vis X.env.scope x := by first | exact Or.inl rfl | exact Or.inr (Or.inl rfl) | exact Or.inr (Or.inr rfl)) (hd : (x == ("__debug__" : Str)) = false := by decide)
    (hcd : (x == ("__classdict__" : Str)) = false := by decide) : PD X W (.Subscript (.Name x p) b pos) (eIxS i db) := by
  refine ⟨mono_eIxS hb.mono, PE.imp (pe_ix ix_list (pe_var (i := i) hN hv hd hcd) hb.run hs) fun σ H Q ⟨B, F, ρ, S, h⟩ => ?_⟩
  obtain ⟨q, e1⟩ := S.isOw_ref h.1
  refine ⟨_, e1, liftE.of hb.mono (Ex.refl _) S h.2 fun k ρ1 h v F1 H1 e2 S1 r1 => ?_⟩
  cases k <;> try exact h.elim
  obtain ⟨b, ds, e, d, h1, h2⟩ := ofLst.eq h
  obtain ⟨q', vs, e1', hq, r⟩ := S1.lstAt e
  rw [e1] at e1'
  have : q = q' := by simpa using e1'
  subst this
  cases r1.int_inv
  obtain ⟨u, hu, ru⟩ := atI_reps r h1
  exact ⟨q, vs, _, u, rfl, rfl, .inl (.inl hq), hu, h2 u F1 H1 e2 S1 ru⟩

/-! ### slices -/
def cutD (xs : List D) (lo hi : Option Int) : List D := (xs.drop (HT.sIx xs.length 0 lo)).take (HT.sIx xs.length xs.length hi - HT.sIx xs.length 0 lo)
theorem cutD_whole {xs : List D} {lo hi : Option Int} (z : HT.sIx xs.length 0 lo = 0 ∧ HT.sIx xs.length xs.length hi = xs.length) : cutD xs lo hi = xs := by
  unfold cutD
  rw [z.1, z.2, List.drop_zero, Nat.sub_zero, List.take_length]
theorem Reps.cut {K : PySem.W.Frag} {F : Hp} {vs : List V} {ds : List D} (r : Reps K F vs ds) (lo hi : Option Int) : Reps K F (cutV vs lo hi) (cutD ds lo hi) := by
  unfold cutV cutD
  rw [r.length]
  exact (r.drop _).take _
abbrev DPart := Env → XP → (Option Int → Env → Prop) → Prop
structure MonoP (de : DPart) : Prop where
  go : ∀ {ρ X X' K K'}, (∀ x ρ, X x ρ → X' x ρ) → (∀ r ρ, K r ρ → K' r ρ) → de ρ X K → de ρ X' K'
def liftO (K : PySem.W.Frag) (W : WX) (de : DPart) : TO := fun σ H Q => ∃ B F ρ, St K B F ρ σ H ∧ de ρ (xl K W B F σ) fun r ρ' => ∀ F' H', Ex F F' → St K B F' ρ' σ H' → Q r H'
structure PDO (X : Cx) (W : WX) (e : Option Expr) (de : DPart) : Prop where
  mono : MonoP de
  run : PO X e (liftO X.K W de)
theorem PO.imp {X : Cx} {e : Option Expr} {t t' : TO} (h : PO X e t) (hi : ∀ σ H Q, t' σ H Q → t σ H Q) : PO X e t' := ⟨fun pins s σ H Q I q => h.run pins s σ H Q I (hi σ H Q q)⟩
theorem liftO.of {K : PySem.W.Frag} {W : WX} {B : Base} {F0 F : Hp} {ρ : Env} {σ : L2.St} {H : Hp} {de : DPart} {k : Option Int → Env → Prop} {Q : Option Int → Hp → Prop} (m : MonoP de) (e : Ex F0 F) (S : St K B F ρ σ H) (h : de ρ (xl K W B F0 σ) k) (hk : ∀ r ρ1, k r ρ1 → ∀ F1 H1, Ex F F1 → St K B F1 ρ1 σ H1 → Q r H1) : liftO K W de σ H Q :=
  ⟨B, F, ρ, S, m.go (xl_up e) hk h⟩
def oNone : DPart := fun ρ _ K => K none ρ
def oSome (de : DE) : DPart := fun ρ X K => de ρ X fun d ρ1 => match d with
  | .int i => K (some i) ρ1
  | _ => False
theorem pdo_none : PDO X W none oNone := ⟨⟨fun hx hk h => hk _ _ h⟩, PO.imp po_none fun σ H Q ⟨B, F, ρ, S, h⟩ => h F H (Ex.refl _) S⟩
theorem pdo_some (h : PD X W e da) : PDO X W (some e) (oSome da) :=
  ⟨⟨fun hx hk h' => h.mono.go hx (fun d ρ h => by cases d <;> first | exact hk _ _ h | exact h.elim) h'⟩, PO.imp (po_some h.run) fun σ H Q ⟨B, F, ρ, S, q⟩ => liftE.of h.mono (Ex.refl _) S q fun d ρ1 h v F1 H1 e1 S1 r1 => by
    cases d <;> try exact h.elim
    exact ⟨_, r1.int_inv, h F1 H1 e1 S1⟩⟩
def dSl : D → Option Int → Option Int → (D → Prop) → Prop
  | .list xs, lo, hi, P => P (.list (cutD xs lo hi))
  | .rol xs, lo, hi, P => P (.list (cutD xs lo hi))
  | .tuple xs, lo, hi, P => P (.tuple (cutD xs lo hi))
  | _, _, _, _ => False
def eSl (da : DE) (dl dh : DPart) : DE := fun ρ X K => da ρ X fun x ρ1 => dl ρ1 X fun lo ρ2 => dh ρ2 X fun hi ρ3 => dSl x lo hi fun z => K z ρ3
def rSlAll (K : PySem.W.Frag) : V → Option Int → Option Int → Hp → VK → Prop := fun x lo hi H Q => rSlL K x lo hi H Q ∨ rSlA K x lo hi H Q
theorem pd_slice {lo hi : Option Expr} {p2 : Pos} {dl dh : DPart} (ha : PD X W a da) (hl : PDO X W lo dl) (hh : PDO X W hi dh) : PD X W (.Subscript a (.Slice lo hi none p2) pos) (eSl da dl dh) := by
  refine ⟨⟨fun hx hk h => ha.mono.go hx (fun x ρ h => hl.mono.go hx (fun l ρ h => hh.mono.go hx (fun u ρ h => ?_) h) h) h⟩, PE.imp (pe_slice (r := rSlAll X.K) (sl_list.or sl_tupA) ha.run hl.run hh.run) fun σ H Q ⟨B, F, ρ, S, h⟩ =>
    liftE.of ha.mono (Ex.refl _) S h fun x ρ1 h v F1 H1 e1 S1 r1 => liftO.of hl.mono e1 S1 h fun l ρ2 h F2 H2 e2 S2 => liftO.of hh.mono (e1.trans e2) S2 h fun u ρ3 h F3 H3 e3 S3 => ?_⟩
  · cases x <;> first | exact hk _ _ h | exact h.elim
  · have r3 := (r1.mono e2).mono e3
    have e := (e1.trans e2).trans e3
    cases x <;> try exact h.elim
    · obtain ⟨p, vs, rfl, q1, r⟩ := r3.list_inv
      refine .inl ⟨p, vs, rfl, .inl (.inl (S3.ex.on q1)), fun n hn => ?_⟩
      obtain ⟨e4, S4⟩ := S3.alloc (o := .lst (cutV vs l u)) hn
      exact h _ _ _ (e.trans e4) S4 (.lst upd_same ((r.cut l u).mono e4))
    · obtain ⟨p, vs, rfl, q1, r⟩ := r3.tuple_inv
      refine .inr ⟨p, vs, rfl, xl_t S3.ex q1, fun z => ?_, fun z n hn => ?_⟩
      · rw [r.length] at z
        have h' := h
        simp only [dSl] at h'
        rw [cutD_whole z] at h'
        exact h' _ F3 H3 e S3 r3
      · obtain ⟨e4, S4⟩ := S3.alloc (o := .tup (cutV vs l u)) hn
        exact h _ _ _ (e.trans e4) S4 (.tup upd_same ((r.cut l u).mono e4))
    · obtain ⟨p, vs, rfl, q1, r⟩ := r3.rol_inv
      refine .inl ⟨p, vs, rfl, xl_l S3.ex q1, fun n hn => ?_⟩
      obtain ⟨e4, S4⟩ := S3.alloc (o := .lst (cutV vs l u)) hn
      exact h _ _ _ (e.trans e4) S4 (.lst upd_same ((r.cut l u).mono e4))

/-! ### fields -/
/-- the j-th field of an instance of the class at C with these fields -/
def eAttr (C : Addr) (lay : List Str) (j : Nat) (da : DE) : DE := fun ρ X K => da ρ X fun d ρ1 => match d with
  | .ob C' lay' xs => C' = C ∧ lay' = lay ∧ ∃ x, xs[j]? = some x ∧ K x ρ1
  | _ => False
theorem lookup_at {f : Str} : ∀ {fs : List (Str × V)} {j : Nat} {v : V}, (fs.map (·.1))[j]? = some f → ((fs.map (·.1)).take j).all (fun g => !(f == g)) = true → (fs.map (·.2))[j]? = some v → fs.lookup f = some v
  | [], j, v, h, _, _ => by simp at h
  | (g, w) :: fs, 0, v, h, _, hv => by
    simp at h hv
    subst h; subst hv
    simp
  | (g, w) :: fs, j + 1, v, h, ha, hv => by
    simp only [List.map_cons, List.take_succ_cons, List.all_cons, Bool.and_eq_true, Bool.not_eq_true'] at ha
    rw [List.lookup_cons, ha.1]
    exact lookup_at (fs := fs) (j := j) (by simpa using h) ha.2 (by simpa using hv)
theorem pd_attr {C : Addr} {lay : List Str} {j : Nat} {f : Str} (hc : Cls X.K C) (hn : NoAttr X.K C f) (hj : lay[j]? = some f) (hb4 : (lay.take j).all (fun g => !(f == g)) = true) (ha : PD X W a da)
    (hb : attributeBase a f X.env (eval a X.env) = eval a X.env := by rfl) : PD X W (.Attribute a f pos) (eAttr C lay j da) := by
  refine ⟨⟨fun hx hk h => ha.mono.go hx (fun d ρ h => ?_) h⟩, PE.imp (pe_fld ha.run hb) fun σ H Q ⟨B, F, ρ, S, h⟩ => liftE.of ha.mono (Ex.refl _) S h fun d ρ1 h v F1 H1 e1 S1 r1 => ?_⟩
  · cases d <;> try exact h.elim
    obtain ⟨h1, h2, x, h3, h4⟩ := h
    exact ⟨h1, h2, x, h3, hk _ _ h4⟩
  · cases d <;> try exact h.elim
    obtain ⟨rfl, rfl, x, h3, h4⟩ := h
    obtain ⟨p, dx, fs, rfl, q1, q2, r⟩ := r1.ob_inv
    obtain ⟨u, hu, ru⟩ := r.get_some h3
    subst q2
    exact ⟨p, _, dx, fs, u, rfl, S1.ex.on q1, hc, hn, lookup_at hj hb4 hu, h4 u F1 H1 e1 S1 ru⟩

/-! ### built-ins by their names -/
/-- what a built-in makes of data -/
abbrev DB := List D → (D → Prop) → Prop
structure RCall (K : PySem.W.Frag) (r : List V → Hp → VK → Prop) (f : DB) : Prop where
  mono : ∀ {xs P P'}, (∀ z, P z → P' z) → f xs P → f xs P'
  run : ∀ {B F ρ σ H vs xs Q P}, St K B F ρ σ H → Reps K F vs xs → f xs P → (∀ z, P z → ∀ u F' H', Ex F F' → St K B F' ρ σ H' → Rep K F' u z → Q u H') → r vs H Q
def eB (f : DB) (das : DAs) : DE := fun ρ X K => das ρ X fun as ρ' => allD as fun ds => f ds fun z => K z ρ'
theorem mono_eB {r} {f : DB} {K : PySem.W.Frag} (hr : RCall K r f) (m : MonoA das) : MonoE (eB f das) := ⟨fun hx hk h => m.go hx (fun as ρ h => allD.mono (fun xs h => hr.mono (fun _ h => hk _ _ h) h) h) h⟩
theorem liftCB {r} {f : DB} (hr : RCall X.K r f) (m : MonoA das) {σ : L2.St} {H : Hp} {Q : VK} (h : liftE X.K W (eB f das) σ H Q) : tCB r (liftA X.K W das) σ H Q := by
  obtain ⟨B, F, ρ, S, h⟩ := h
  refine liftA.of m (Ex.refl _) S h fun as ρ1 h vs F1 H1 e1 S1 r1 => ?_
  obtain ⟨ds, r, q⟩ := allD.reps r1 h
  exact hr.run S1 r q fun z h u F' H' e2 S2 r2 => h u F' H' (e1.trans e2) S2 r2
theorem pd_callB {r} {f : DB} {x : Str} {id : String} {p : Pos} (hc : CallR X (.builtin id) r) (hr : RCall X.K r f) (hg : Gl X x) (hm : X.mg x = none) (hv : bootBuiltins x = some (.builtin id)) (ha : PDA X W (e :: es) das) (hn : x ≠ "__name__" := by decide) (hdb : (x == ("__debug__" : Str)) = false := by decide)
    (he : starEach (e :: es) X.env = (false, eval e X.env) :: starEach es X.env := by rfl) (hpl : (backTo pos (starEach es X.env)).any (·.1) = false := by rfl) : PD X W (.Call (.Name x p) (e :: es) [] pos) (eB f das) :=
  ⟨mono_eB hr ha.mono, PE.imp (pe_callB hc hg hm hv ha.run hn hdb he hpl) fun σ H Q h => liftCB hr ha.mono h⟩
theorem pd_callTy {r} {f : DB} {x : Str} {T : String} {p : Pos} (hc : CallR X (.type T) r) (hr : RCall X.K r f) (hg : Gl X x) (hm : X.mg x = none) (hv : bootBuiltins x = some (.type T)) (ha : PDA X W (e :: es) das) (hn : x ≠ "__name__" := by decide) (hdb : (x == ("__debug__" : Str)) = false := by decide)
    (he : starEach (e :: es) X.env = (false, eval e X.env) :: starEach es X.env := by rfl) (hpl : (backTo pos (starEach es X.env)).any (·.1) = false := by rfl) : PD X W (.Call (.Name x p) (e :: es) [] pos) (eB f das) :=
  ⟨mono_eB hr ha.mono, PE.imp (pe_callTy hc hg hm hv ha.run hn hdb he hpl) fun σ H Q h => liftCB hr ha.mono h⟩
end
end DL
set_option Elab.async false
set_option linter.all false
set_option maxRecDepth 100000
set_option maxHeartbeats 1000000
/-! DL5: contracts and calls. -/
namespace DL
open PySem L2 Evl
variable [Tbs]
/-- what comes back: a datum, or a new object of one's own -/
inductive Rv where
  | d (x : D)
  | nw (c : Ct)
def Rv.toD : Rv → D
  | .d x => x
  | .nw c => c.d
/-- a contract: the arguments, what is wanted of an exception, of the result (with what became of the lent ones) -/
abbrev DC := List Sl → (Exn → List Sl → Prop) → (Rv → List Sl → Prop) → Prop
structure MonoC (dc : DC) : Prop where
  go : ∀ {as X X' R R'}, (∀ x o, X x o → X' x o) → (∀ r o, R r o → R' r o) → dc as X R → dc as X' R'
def RvR (K : PySem.W.Frag) (B : Base) (F H : Hp) (v : V) : Rv → Prop
  | .d x => Rep K F v x
  | .nw c => ∃ a, v = .ref a ∧ OwR K B F H a c ∧ B.H0 a = none
def spD (K : PySem.W.Frag) (n : Nat) (dc : DC) : Sp := fun vs H Q E => vs.length = n ∧ ∃ B F args, St K B F args (vs.map some) H ∧
  dc args (fun x outs => ∀ F' H' dd v, Ex F F' → St K B F' outs (vs.map some) H' → F' dd = some (.xd [(x.f, v)]) → Rep K F' v x.d → E (.ref x.C) (some dd) H')
    fun r outs => ∀ v F' H', Ex F F' → St K B F' outs (vs.map some) H' → RvR K B F' H' v r → Q v H'

/-! ### the caller's side -/
def lentOf : Sl → Sl
  | .ow _ c => .ow true c
  | _ => .un
def argsOf (ρ : Env) : List AV → List Sl
  | [] => []
  | .d x :: as => .fz x :: argsOf ρ as
  | .bor i :: as => lentOf (gt ρ i) :: argsOf ρ as
def lend : Sl → Sl → Sl
  | .ow b _, .ow _ c => .ow b c
  | _, _ => .un
def putOuts : List AV → List Sl → Env → Env
  | .d _ :: as, _ :: os, ρ => putOuts as os ρ
  | .bor i :: as, o :: os, ρ => putOuts as os (ρ.set i (lend (gt ρ i) o))
  | _, _, ρ => ρ
def isBor (i : Nat) : AV → Bool
  | .bor j => i == j
  | .d _ => false
def borOk (ρ : Env) : List AV → Bool
  | [] => true
  | .d _ :: as => borOk ρ as
  | .bor i :: as => isOw (gt ρ i) && (!as.any (isBor i) && borOk ρ as)
def eCall (n : Nat) (dc : DC) (das : DAs) : DE := fun ρ X K => das ρ X fun as ρ1 => as.length = n ∧ borOk ρ1 as = true ∧ dc (argsOf ρ1 as) (fun x outs => X x (putOuts as outs ρ1)) fun r outs => K r.toD (putOuts as outs ρ1)
section
variable {K : PySem.W.Frag} {B : Base} {F F' : Hp} {ρ : Env} {σ : L2.St} {H H' : Hp} {as : List AV} {vs : List V} {outs : List Sl}
theorem argsOf_length : ∀ {as : List AV}, (argsOf ρ as).length = as.length
  | [] => rfl
  | .d _ :: as => by simp [argsOf, argsOf_length (as := as)]
  | .bor _ :: as => by simp [argsOf, argsOf_length (as := as)]
theorem AvR.length : ∀ {vs : List V} {as : List AV}, AvR K F σ vs as → vs.length = as.length
  | [], [], _ => rfl
  | v :: vs, .d x :: as, h => by simp [AvR.length h.2]
  | v :: vs, .bor i :: as, h => by simp [AvR.length h.2]
  | [], .d _ :: _, h => h.elim
  | [], .bor _ :: _, h => h.elim
  | _ :: _, [], h => h.elim
/-- argument by argument -/
theorem AvR.at : ∀ {vs : List V} {as : List AV}, AvR K F σ vs as → ∀ (i : Nat) (v : V), vs[i]? = some v →
    (∃ x, as[i]? = some (.d x) ∧ Rep K F v x ∧ (argsOf ρ as).getD i .un = .fz x) ∨ ∃ j, as[i]? = some (.bor j) ∧ σ[j]? = some (some v) ∧ (argsOf ρ as).getD i .un = lentOf (gt ρ j)
  | [], [], _, i, v, h => by simp at h
  | w :: vs, .d x :: as, h, 0, v, e => by
    simp at e; subst e
    exact .inl ⟨x, rfl, h.1, rfl⟩
  | w :: vs, .bor j :: as, h, 0, v, e => by
    simp at e; subst e
    exact .inr ⟨j, rfl, h.1, rfl⟩
  | w :: vs, .d x :: as, h, i + 1, v, e => by
    have := AvR.at (vs := vs) (as := as) h.2 i v (by simpa using e)
    simpa [argsOf, List.getD] using this
  | w :: vs, .bor j :: as, h, i + 1, v, e => by
    have := AvR.at (vs := vs) (as := as) h.2 i v (by simpa using e)
    simpa [argsOf, List.getD] using this
  | [], _ :: _, h, _, _, _ => by cases ‹AV› <;> exact h.elim
  | _ :: _, [], h, _, _, _ => h.elim
theorem borOk_at {ρ : Env} : ∀ {as : List AV}, borOk ρ as = true → ∀ (i j p : Nat), as[i]? = some (.bor p) → as[j]? = some (.bor p) → i = j
  | [], _, i, j, p, h, _ => by simp at h
  | .d _ :: as, hb, 0, j, p, h, _ => by simp at h
  | .d _ :: as, hb, i + 1, 0, p, _, h => by simp at h
  | .d _ :: as, hb, i + 1, j + 1, p, h1, h2 => by rw [borOk_at (as := as) (by simpa [borOk] using hb) i j p (by simpa using h1) (by simpa using h2)]
  | .bor q :: as, hb, 0, 0, p, _, _ => rfl
  | .bor q :: as, hb, 0, j + 1, p, h1, h2 => by
    simp at h1; subst h1
    simp only [borOk, Bool.and_eq_true, Bool.not_eq_true'] at hb
    have : as.any (isBor q) = true := List.any_eq_true.mpr ⟨.bor q, List.mem_of_getElem? (by simpa using h2), by simp [isBor]⟩
    rw [hb.2.1] at this; cases this
  | .bor q :: as, hb, i + 1, 0, p, h1, h2 => by
    simp at h2; subst h2
    simp only [borOk, Bool.and_eq_true, Bool.not_eq_true'] at hb
    have : as.any (isBor q) = true := List.any_eq_true.mpr ⟨.bor q, List.mem_of_getElem? (by simpa using h1), by simp [isBor]⟩
    rw [hb.2.1] at this; cases this
  | .bor q :: as, hb, i + 1, j + 1, p, h1, h2 => by
    simp only [borOk, Bool.and_eq_true] at hb
    rw [borOk_at (as := as) hb.2.2 i j p (by simpa using h1) (by simpa using h2)]
theorem putOuts_length : ∀ {as : List AV} {outs : List Sl} {ρ : Env}, (putOuts as outs ρ).length = ρ.length
  | [], _, _ => rfl
  | .d _ :: as, [], _ => rfl
  | .bor _ :: as, [], _ => rfl
  | .d _ :: as, _ :: os, ρ => by rw [putOuts, putOuts_length]
  | .bor i :: as, o :: os, ρ => by rw [putOuts, putOuts_length]; simp
/-- behind a call: a slot that was not lent is as it was -/
theorem putOuts_ne : ∀ {as : List AV} {outs : List Sl} {ρ : Env} {j : Nat}, (∀ i : Nat, as[i]? ≠ some (.bor j)) → (putOuts as outs ρ).getD j .un = ρ.getD j .un
  | [], _, _, _, _ => rfl
  | .d _ :: as, [], _, _, _ => rfl
  | .bor _ :: as, [], _, _, _ => rfl
  | .d _ :: as, _ :: os, ρ, j, h => by rw [putOuts]; exact putOuts_ne fun i => by simpa using h (i + 1)
  | .bor i :: as, o :: os, ρ, j, h => by
    have hij : i ≠ j := fun z => h 0 (by simp [z])
    rw [putOuts, putOuts_ne fun i => by simpa using h (i + 1), getD_set_ne hij]
/-- one that was lent holds what became of it -/
theorem putOuts_at {ρ' : Env} : ∀ {as : List AV} {outs : List Sl} {ρ : Env} {i j : Nat}, borOk ρ' as = true → as[i]? = some (.bor j) → i < outs.length → j < ρ.length → (putOuts as outs ρ).getD j .un = lend (ρ.getD j .un) (outs.getD i .un)
  | [], _, _, i, j, _, h, _, _ => by simp at h
  | .d _ :: as, [], _, i, j, _, _, h, _ => by simp at h
  | .bor _ :: as, [], _, i, j, _, _, h, _ => by simp at h
  | .d _ :: as, _ :: os, ρ, 0, j, _, h, _, _ => by simp at h
  | .d _ :: as, o :: os, ρ, i + 1, j, hb, h, hl, hr => by
    rw [putOuts, putOuts_at (ρ' := ρ') (i := i) (by simpa [borOk] using hb) (by simpa using h) (by simpa using hl) hr]; rfl
  | .bor q :: as, o :: os, ρ, 0, j, hb, h, hl, hr => by
    simp at h; subst h
    simp only [borOk, Bool.and_eq_true, Bool.not_eq_true'] at hb
    rw [putOuts, putOuts_ne (fun i z => ?_), getD_set_self hr]
    · rfl
    · have : as.any (isBor q) = true := List.any_eq_true.mpr ⟨.bor q, List.mem_of_getElem? z, by simp [isBor]⟩
      rw [hb.2.1] at this; cases this
  | .bor q :: as, o :: os, ρ, i + 1, j, hb, h, hl, hr => by
    simp only [borOk, Bool.and_eq_true, Bool.not_eq_true'] at hb
    have hq : q ≠ j := fun z => by
      subst z
      have : as.any (isBor q) = true := List.any_eq_true.mpr ⟨.bor q, List.mem_of_getElem? (by simpa using h), by simp [isBor]⟩
      rw [hb.2.1] at this; cases this
    rw [putOuts, putOuts_at (i := i) (ρ' := ρ') hb.2.2 (by simpa using h) (by simpa using hl) (by simpa using hr), getD_set_ne hq]; rfl
/-- an address that is lent -/
def Lent (σ : L2.St) (as : List AV) (a : Addr) : Prop := ∃ i j : Nat, as[i]? = some (.bor j) ∧ σ[j]? = some (some (.ref a))
theorem borOk_ow {ρ : Env} : ∀ {as : List AV}, borOk ρ as = true → ∀ (i p : Nat), as[i]? = some (.bor p) → isOw (gt ρ p) = true
  | [], _, i, p, h => by simp at h
  | .d _ :: as, hb, 0, p, h => by simp at h
  | .d _ :: as, hb, i + 1, p, h => borOk_ow (as := as) (by simpa [borOk] using hb) i p (by simpa using h)
  | .bor q :: as, hb, 0, p, h => by
    simp at h; subst h
    simp only [borOk, Bool.and_eq_true] at hb
    exact hb.1
  | .bor q :: as, hb, i + 1, p, h => by
    simp only [borOk, Bool.and_eq_true] at hb
    exact borOk_ow (as := as) hb.2.2 i p (by simpa using h)
/-- the ground of a callee -/
def isTab (a : Addr) : Prop := ∃ p ∈ Tbs.T, p.1 = a
open Classical in
noncomputable def callee (F H : Hp) (σ : L2.St) (as : List AV) (vs : List V) : Base := ⟨fun a => if Lent σ as a ∨ isTab a then none else H a, F, H, vs.map some⟩
theorem callee_G {a : Addr} (h : ¬ Lent σ as a) (n : ¬ isTab a) : (callee F H σ as vs).G a = H a := by
  unfold callee
  exact if_neg (not_or.mpr ⟨h, n⟩)
theorem callee_G0 {a : Addr} (h : Lent σ as a) : (callee F H σ as vs).G a = none := by
  unfold callee
  exact if_pos (.inl h)
theorem callee_Gt {a : Addr} (h : isTab a) : (callee F H σ as vs).G a = none := by
  unfold callee
  exact if_pos (.inr h)
theorem St.enter (S : St K B F ρ σ H) (r : AvR K F σ vs as) (hb : borOk ρ as = true) : St K (callee F H σ as vs) F (argsOf ρ as) (vs.map some) H := by
  refine ⟨S.ex, fun a u h => ?_, fun a h => .inl h, Ex.refl _, Thr.refl _, by rw [List.length_map, argsOf_length, r.length], fun i => ?_, fun i j a h1 h2 e1 e2 => ?_, fun p hp => ⟨(S.tb p hp).1, (S.tb p hp).2.1, callee_Gt ⟨p, hp, rfl⟩⟩⟩
  · by_cases q : Lent σ as a
    · rw [callee_G0 q] at h; cases h
    · by_cases q2 : isTab a
      · rw [callee_Gt q2] at h; cases h
      · rw [callee_G q q2] at h; exact h
  · cases hv : vs[i]? with
    | none =>
      have : (argsOf ρ as).getD i .un = .un := by
        rw [List.getD, List.getElem?_eq_none]; · rfl
        rw [argsOf_length, ← r.length]
        exact List.getElem?_eq_none_iff.mp hv
      rw [this]; trivial
    | some v =>
      have hm : (vs.map some)[i]? = some (some v) := by simp [hv]
      rw [hm]
      rcases r.at (ρ := ρ) i v hv with ⟨x, _, rx, e⟩ | ⟨j, ej, es, e⟩
      · rw [e]; exact ⟨v, rfl, rx⟩
      · rw [e]
        cases hs : gt ρ j with
        | un => trivial
        | fz d => trivial
        | ow b c =>
          obtain ⟨a, e1, ⟨nf, ng, o, ho, hc⟩, _⟩ := S.ow hs
          rw [es] at e1
          have : v = .ref a := by simpa using e1
          subst this
          exact ⟨a, rfl, ⟨nf, callee_G0 ⟨i, j, ej, es⟩, o, ho, hc⟩, fun z => (by cases z), fun _ => hm⟩
  · have key : ∀ i, isOw ((argsOf ρ as).getD i .un) = true → (vs.map some)[i]? = some (some (.ref a)) → ∃ p, as[i]? = some (.bor p) ∧ σ[p]? = some (some (.ref a)) ∧ isOw (gt ρ p) = true := fun i h e => by
      have hv : vs[i]? = some (.ref a) := by
        rw [List.getElem?_map] at e
        cases q : vs[i]? with
        | none => rw [q] at e; cases e
        | some w => rw [q] at e; simpa using e
      rcases r.at (ρ := ρ) i _ hv with ⟨x, _, _, e'⟩ | ⟨p, ep, es, e'⟩
      · rw [e'] at h; cases h
      · refine ⟨p, ep, es, ?_⟩
        rw [e'] at h
        cases hs : gt ρ p with
        | un => rw [hs] at h; cases h
        | fz d => rw [hs] at h; cases h
        | ow b c => rfl
    obtain ⟨p, ep, es, ho⟩ := key i h1 e1
    obtain ⟨q, eq, es', ho'⟩ := key j h2 e2
    have : p = q := S.own p q a ho ho' es es'
    subst this
    exact borOk_at hb i j p ep eq
theorem St.leave (S : St K B F ρ σ H) (r : AvR K F σ vs as) (hb : borOk ρ as = true) (e : Ex F F') (S' : St K (callee F H σ as vs) F' outs (vs.map some) H') : St K B F' (putOuts as outs ρ) σ H' := by
  have hlen : outs.length = as.length := by rw [← S'.len, List.length_map, r.length]
  have fresh : ∀ a o c, F a = none → H a = some o → CtR K F a o c → F' a = none := fun a o c h1 h2 h3 => by
    cases h : F' a with
    | none => rfl
    | some u =>
      rcases S'.new a (by rw [h]; simp) with z | z | ⟨vs, z⟩
      · exact absurd h1 z
      · have z : H a = none := z
        rw [h2] at z; cases z
      · have z : H a = some (.tup vs) := z
        rw [h2] at z
        exact absurd (by simpa using z) (h3.noTup vs)
  have jlt : ∀ {i j : Nat} {v : V}, as[i]? = some (.bor j) → vs[i]? = some v → σ[j]? = some (some v) := fun {i j v} h1 h2 => by
    rcases r.at (ρ := ρ) i v h2 with ⟨x, e1, _⟩ | ⟨p, e1, e2, _⟩
    · rw [h1] at e1; cases e1
    · rw [h1] at e1; cases e1; exact e2
  have vat : ∀ {i j : Nat}, as[i]? = some (.bor j) → ∃ v, vs[i]? = some v := fun {i j} h => by
    have : i < vs.length := by rw [r.length]; exact (List.getElem?_eq_some_iff.mp h).1
    exact ⟨vs[i], by simp [this]⟩
  -- what owned slots there are now were owned before
  have was : ∀ j, isOw ((putOuts as outs ρ).getD j .un) = true → isOw (gt ρ j) = true := fun j h => by
    by_cases q : ∃ i : Nat, as[i]? = some (.bor j)
    · obtain ⟨i, hi⟩ := q
      by_cases hj : j < ρ.length
      · rw [putOuts_at hb hi (by rw [hlen]; exact (List.getElem?_eq_some_iff.mp hi).1) hj] at h
        show isOw (ρ.getD j .un) = true
        cases hs : ρ.getD j .un with
        | un => rw [hs] at h; cases h
        | fz d => rw [hs] at h; cases h
        | ow b c => rfl
      · rw [List.getD, List.getElem?_eq_none (by rw [putOuts_length]; omega)] at h; cases h
    · rw [putOuts_ne fun i z => q ⟨i, z⟩] at h; exact h
  refine ⟨S'.ex, fun a u h => ?_, fun a h => ?_, S.ge.trans e, S.thr.trans S'.thr, by rw [putOuts_length]; exact S.len, fun j => ?_, fun i j a h1 h2 e1 e2 => S.own i j a (was i h1) (was j h2) e1 e2, fun p hp => ⟨(S'.tb p hp).1, (S'.tb p hp).2.1, (S.tb p hp).2.2⟩⟩
  · have nl : ¬ Lent σ as a := fun ⟨i, j, h1, h2⟩ => by
      have ho := borOk_ow hb i j h1
      cases hs : gt ρ j with
      | un => rw [hs] at ho; cases ho
      | fz d => rw [hs] at ho; cases ho
      | ow b c =>
        obtain ⟨a', e1, ⟨_, ng, _⟩, _⟩ := S.ow hs
        rw [h2] at e1
        have : a = a' := by simpa using e1
        subst this
        rw [ng] at h; cases h
    have nt : ¬ isTab a := fun ⟨p, hp, e⟩ => by rw [← e, (S.tb p hp).2.2] at h; cases h
    exact S'.out a u (by rw [callee_G nl nt]; exact S.out a u h)
  · rcases S'.new a h with z | z | ⟨vs, z⟩
    · exact S.new a z
    · exact .inr (.inl (S.fresh0 z))
    · exact .inr (S.n0 z)
  · by_cases q : ∃ i : Nat, as[i]? = some (AV.bor j)
    · obtain ⟨i, hi⟩ := q
      have ho := borOk_ow hb i j hi
      have hj : j < ρ.length := lt_of_getD ho
      have hil : i < outs.length := by rw [hlen]; exact (List.getElem?_eq_some_iff.mp hi).1
      rw [putOuts_at hb hi hil hj]
      obtain ⟨v, hv⟩ := vat hi
      have hσ := jlt hi hv
      cases hs : ρ.getD j .un with
      | un => trivial
      | fz d => trivial
      | ow b c =>
        cases hs' : outs.getD i .un with
        | un => trivial
        | fz d => trivial
        | ow b' c' =>
          obtain ⟨a, e1, ⟨nf, ng, _⟩, h2, h3⟩ := S.ow hs
          obtain ⟨a', e1', ⟨nf', ng', o', ho', hc'⟩, _⟩ := S'.ow hs'
          have hm : (vs.map some)[i]? = some (some v) := by simp [hv]
          rw [hm] at e1'
          rw [hσ] at e1
          have z1 : v = .ref a := by simpa using e1
          subst z1
          have z2 : a = a' := by simpa using e1'
          subst z2
          exact ⟨a, hσ, ⟨nf', ng, o', ho', hc'⟩, h2, fun z => h3 z⟩
    · rw [putOuts_ne fun i z => q ⟨i, z⟩]
      have s := S.sl j
      cases hs : ρ.getD j .un with
      | un => trivial
      | fz d => rw [hs] at s; obtain ⟨v, e1, rv⟩ := s; exact ⟨v, e1, rv.mono e⟩
      | ow b c =>
        rw [hs] at s
        obtain ⟨a, e1, ⟨nf, ng, o, ho, hc⟩, h2, h3⟩ := s
        have nl : ¬ Lent σ as a := fun ⟨i, p, h1, h2⟩ => by
          have := S.own p j a (borOk_ow hb i p h1) (by rw [hs]; rfl) h2 e1
          subst this
          exact q ⟨i, h1⟩
        have nt : ¬ isTab a := fun ⟨p, hp, e⟩ => by
          obtain ⟨ps, z⟩ := S.tb.at hp
          rw [e, ho] at z
          exact hc.noTb (.inl ⟨ps, by simpa using z⟩)
        exact ⟨a, e1, ⟨fresh a _ _ nf ho hc, ng, o, S'.out a o (by rw [callee_G nl nt]; exact ho), hc.mono e⟩, h2, h3⟩
end
end DL
set_option Elab.async false
set_option linter.all false
set_option maxRecDepth 100000
set_option maxHeartbeats 1000000
/-! DL6: calls as rules; new objects. -/
namespace DL
open PySem L2 Evl
variable [Tbs]
/-! ### new objects of one's own -/
abbrev NE := Env → XP → (Ct → Env → Prop) → Prop
structure MonoN (de : NE) : Prop where
  go : ∀ {ρ X X' K K'}, (∀ x ρ, X x ρ → X' x ρ) → (∀ r ρ, K r ρ → K' r ρ) → de ρ X K → de ρ X' K'
/-- v is a new object of one's own, in no slot -/
structure NwR (K : PySem.W.Frag) (B : Base) (F : Hp) (ρ : Env) (σ : L2.St) (H : Hp) (v : V) (c : Ct) : Prop where
  ex : ∃ a, v = .ref a ∧ OwR K B F H a c ∧ B.H0 a = none ∧ ∀ i, isOw (ρ.getD i .un) = true → σ[i]? ≠ some (some (.ref a))
def liftN (K : PySem.W.Frag) (W : WX) (de : NE) : TE := fun σ H Q => ∃ B F ρ, St K B F ρ σ H ∧ de ρ (xl K W B F σ) fun c ρ' => ∀ v F' H', Ex F F' → St K B F' ρ' σ H' → NwR K B F' ρ' σ H' v c → Q v H'
structure PN (X : Cx) (W : WX) (e : Expr) (de : NE) : Prop where
  mono : MonoN de
  run : PE X e (liftN X.K W de)
theorem liftN.of {K : PySem.W.Frag} {W : WX} {B : Base} {F0 F : Hp} {ρ : Env} {σ : L2.St} {H : Hp} {de : NE} {k : Ct → Env → Prop} {Q : VK} (m : MonoN de) (e : Ex F0 F) (S : St K B F ρ σ H) (h : de ρ (xl K W B F0 σ) k) (hk : ∀ r ρ1, k r ρ1 → ∀ v F1 H1, Ex F F1 → St K B F1 ρ1 σ H1 → NwR K B F1 ρ1 σ H1 v r → Q v H1) : liftN K W de σ H Q :=
  ⟨B, F, ρ, S, m.go (xl_up e) hk h⟩
section
variable {K : PySem.W.Frag} {B : Base} {F : Hp} {ρ : Env} {σ : L2.St} {H : Hp}
theorem NwR.freeze {v : V} {c : Ct} (S : St K B F ρ σ H) (n : NwR K B F ρ σ H v c) : ∃ F', Ex F F' ∧ St K B F' ρ σ H ∧ Rep K F' v c.d := by
  obtain ⟨a, rfl, ⟨nf, ng, o, ho, hc⟩, h0, no⟩ := n.ex
  obtain ⟨e, S'⟩ := S.freezeAt ho nf (.inl h0) hc.noTb no
  exact ⟨_, e, S', OwR.freeze hc upd_same e⟩
/-- a fresh address becomes one's own -/
theorem St.newOw {p : Addr} {o : HO} {c : Ct} (S : St K B F ρ σ H) (hp : H p = none) (hc : CtR K F p o c) : St K B F ρ σ (upd H p o) ∧ NwR K B F ρ σ (upd H p o) (.ref p) c := by
  obtain ⟨S', fp, gp, h0⟩ := S.keepNew (o := o) hp
  refine ⟨S', ⟨p, rfl, ⟨fp, gp, o, upd_same, hc⟩, h0, fun i hi z => ?_⟩⟩
  cases hs : ρ.getD i .un with
  | un => rw [hs] at hi; cases hi
  | fz d => rw [hs] at hi; cases hi
  | ow b c =>
    obtain ⟨a', e1, ⟨_, _, o', ho', _⟩, _⟩ := S.ow hs
    rw [z] at e1
    have : p = a' := by simpa using e1
    subst this
    rw [hp] at ho'; cases ho'
end
def eFz (de : NE) : DE := fun ρ X K => de ρ X fun c ρ' => K c.d ρ'
section
variable {X : Cx} {W : WX} {a b c e : Expr} {da db : DE} {das : DAs} {dn : NE} {es : List Expr} {pos p : Pos} {dc : DC}
theorem pd_fz (h : PN X W e dn) : PD X W e (eFz dn) :=
  ⟨⟨fun hx hk h' => h.mono.go hx (fun c ρ h => hk _ _ h) h'⟩, PE.imp h.run fun σ H Q ⟨B, F, ρ, S, q⟩ => liftN.of h.mono (Ex.refl _) S q fun c ρ1 h v F1 H1 e1 S1 n => by
    obtain ⟨F', e2, S2, r⟩ := n.freeze S1
    exact h v F' H1 (e1.trans e2) S2 r⟩
/-- displays -/
def nLst (das : DAs) : NE := fun ρ X K => das ρ X fun as ρ' => allD as fun ds => ds.length ≤ 1000000 ∧ K (.lst ds) ρ'
theorem pn_lst (h : PDA X W es das) : PN X W (.List es pos) (nLst das) :=
  ⟨⟨fun hx hk h' => h.mono.go hx (fun as ρ h => allD.mono (fun xs h => ⟨h.1, hk _ _ h.2⟩) h) h'⟩, PE.imp (pe_lst h.run) fun σ H Q ⟨B, F, ρ, S, q⟩ => liftA.of h.mono (Ex.refl _) S q fun as ρ1 h vs F1 H1 e1 S1 r1 => by
    obtain ⟨ds, r, hl, q⟩ := allD.reps r1 h
    refine ⟨by rw [r.length]; exact le_line hl, fun p hp => ?_⟩
    obtain ⟨S2, n⟩ := S1.newOw (o := .lst vs) (c := .lst ds) hp ⟨vs, rfl, r⟩
    exact q _ _ _ e1 S2 n⟩
def nC (c : Ct) : NE := fun ρ _ K => K c ρ
theorem pn_dnewK : PN X W (.Dict [] [] pos) (nC (.dct [])) :=
  ⟨⟨fun hx hk h => hk _ _ h⟩, PE.imp pe_dnewK fun σ H Q ⟨B, F, ρ, S, q⟩ p hp => by
    obtain ⟨S2, n⟩ := S.newOw (o := .dK []) (c := .dct []) hp ⟨[], rfl, .nil⟩
    exact q _ F _ (Ex.refl _) S2 n⟩
theorem pn_dnewT : PN X W (.Dict [] [] pos) (nC (.dctT [])) :=
  ⟨⟨fun hx hk h => hk _ _ h⟩, PE.imp pe_dnewT fun σ H Q ⟨B, F, ρ, S, q⟩ p hp => by
    obtain ⟨S2, n⟩ := S.newOw (o := .dT []) (c := .dctT []) hp ⟨[], rfl, .nil⟩
    exact q _ F _ (Ex.refl _) S2 n⟩

/-- {}, to be a dict with nested keys -/
def tDNewN : TE := fun _ H Q => ∀ p, H p = none → Q (.ref p) (upd H p (ND p []))
theorem pe_dnewN : PE X (.Dict [] [] pos) tDNewN := ⟨fun pins s σ H Q I h =>
  wpAny_Dict_empty ⟨.ref s.heap.objs.size, _, I.laid (a := s.heap.objs.size) (o := ND s.heap.objs.size []) (t' := s.toks) (fun _ _ q => Heap.get?_push_of_some _ q) (Nat.le_refl _) (nd_obj (nd_empty s.heap I.big)), rfl, h _ (I.hok.fresh (Nat.le_refl _))⟩⟩
theorem pn_dnewN : PN X W (.Dict [] [] pos) (nC (.dctN [])) :=
  ⟨⟨fun hx hk h => hk _ _ h⟩, PE.imp pe_dnewN fun σ H Q ⟨B, F, ρ, S, q⟩ p hp => by
    obtain ⟨S2, n⟩ := S.newOw (o := ND p []) (c := .dctN []) hp ⟨[], rfl, .nil⟩
    exact q _ F _ (Ex.refl _) S2 n⟩
/-! ### calls of defs -/
theorem putOuts_was {as : List AV} : ∀ {outs : List Sl} {ρ : Env} (j : Nat), isOw ((putOuts as outs ρ).getD j .un) = true → isOw (gt ρ j) = true := by
  induction as with
  | nil => intro outs ρ j h; exact h
  | cons a as ih =>
    intro outs ρ j h
    cases outs with
    | nil => cases a <;> exact h
    | cons o os =>
      cases a with
      | d x => exact ih j h
      | bor i =>
        have h2 := ih (outs := os) (ρ := ρ.set i (lend (gt ρ i) o)) j h
        by_cases q : i = j
        · subst q
          by_cases hl : i < ρ.length
          · have h3 : isOw (lend (gt ρ i) o) = true := by
              have := h2
              unfold gt at this
              rw [getD_set_self hl] at this; exact this
            cases hs : gt ρ i with
            | un => rw [hs] at h3; cases h3
            | fz d => rw [hs] at h3; cases h3
            | ow b c => rfl
          · rw [List.set_eq_of_length_le (by omega)] at h2; exact h2
        · unfold gt at h2 ⊢
          rw [getD_set_ne q] at h2; exact h2
/-- a result, to the caller -/
inductive RzR (K : PySem.W.Frag) (B : Base) (F : Hp) (ρ : Env) (σ : L2.St) (H : Hp) (v : V) : Rv → Prop
  | d {x : D} : Rep K F v x → RzR K B F ρ σ H v (.d x)
  | nw {c : Ct} : NwR K B F ρ σ H v c → RzR K B F ρ σ H v (.nw c)
/-- the call, by values: from the callee's promise -/
theorem call_data {K : PySem.W.Frag} {B : Base} {F : Hp} {ρ : Env} {σ : L2.St} {H : Hp} {as : List AV} {vs : List V} {Q : VK} {XX : XP} {KK : Rv → Env → Prop} {n : Nat} {E : XK} (hn : as.length = n) (S : St K B F ρ σ H) (r : AvR K F σ vs as) (hb : borOk ρ as = true) (m : MonoC dc)
    (h : dc (argsOf ρ as) (fun x outs => XX x (putOuts as outs ρ)) fun r outs => KK r (putOuts as outs ρ))
    (hX : ∀ x ρ', XX x ρ' → ∀ F' H' dd v, Ex F F' → St K B F' ρ' σ H' → F' dd = some (.xd [(x.f, v)]) → Rep K F' v x.d → E (.ref x.C) (some dd) H')
    (hK : ∀ r ρ', KK r ρ' → ∀ v F' H', Ex F F' → St K B F' ρ' σ H' → RzR K B F' ρ' σ H' v r → Q v H') : spD K n dc vs H Q E := by
  refine ⟨by rw [r.length, hn], callee F H σ as vs, F, argsOf ρ as, S.enter r hb, m.go (fun x o h F' H' dd v e S' h1 h2 => hX x _ h F' H' dd v e (S.leave r hb e S') h1 h2) (fun r' o h v F' H' e S' h1 => hK r' _ h v F' H' e (S.leave r hb e S') ?_) h⟩
  cases r' with
  | d x => exact .d h1
  | nw c =>
    obtain ⟨a, rfl, ⟨nf, ng, ob, ho, hc⟩, h0⟩ := h1
    have h0 : H a = none := h0
    have hb0 : B.H0 a = none := by
      cases q : B.H0 a with
      | none => rfl
      | some u => exact absurd h0 (S.there a (by rw [q]; simp))
    refine .nw ⟨a, rfl, ⟨nf, fresh_back S.out h0, ob, ho, hc⟩, hb0, fun i hi z => ?_⟩
    have hw := putOuts_was (as := as) i hi
    cases hs : gt ρ i with
    | un => rw [hs] at hw; cases hw
    | fz d => rw [hs] at hw; cases hw
    | ow b c =>
      obtain ⟨a', e1, ⟨_, _, o', ho', _⟩, _⟩ := S.ow hs
      rw [z] at e1
      have : a = a' := by simpa using e1
      subst this
      rw [h0] at ho'; cases ho'
theorem NwR.weaken {K : PySem.W.Frag} {B B' : Base} {F : Hp} {ρ : Env} {σ : L2.St} {H : Hp} {v : V} {c : Ct} (l : B.Le B') (n : NwR K B' F ρ σ H v c) : NwR K B F ρ σ H v c := by
  obtain ⟨a, rfl, o, h0, no⟩ := n.ex
  exact ⟨a, rfl, o.weaken l, by rw [← l.h]; exact h0, no⟩
theorem RzR.weaken {K : PySem.W.Frag} {B B' : Base} {F : Hp} {ρ : Env} {σ : L2.St} {H : Hp} {v : V} {r : Rv} (l : B.Le B') (h : RzR K B' F ρ σ H v r) : RzR K B F ρ σ H v r := by
  cases h with
  | d h => exact .d h
  | nw h => exact .nw (h.weaken l)
theorem RzR.toD {K : PySem.W.Frag} {B : Base} {F : Hp} {ρ : Env} {σ : L2.St} {H : Hp} {v : V} {r : Rv} (S : St K B F ρ σ H) (h : RzR K B F ρ σ H v r) : ∃ F', Ex F F' ∧ St K B F' ρ σ H ∧ Rep K F' v r.toD := by
  cases h with
  | d h => exact ⟨F, Ex.refl _, S, h⟩
  | nw h => exact h.freeze S
theorem mono_eCall {n : Nat} (m : MonoC dc) (ma : MonoA das) : MonoE (eCall n dc das) := ⟨fun hx hk h => ma.go hx (fun as ρ h => ⟨h.1, h.2.1, m.go (fun x o h => hx _ _ h) (fun r o h => hk _ _ h) h.2.2⟩) h⟩
/-- the caller's reading of a call -/
theorem callT {n : Nat} {E : L2.St → XK} (hE : ∀ σ cls d H, W cls d σ H → E σ cls d H) (m : MonoC dc) (ma : MonoA das) {σ : L2.St} {H : Hp} {Q : VK} (h : liftE X.K W (eCall n dc das) σ H Q) : liftA X.K W das σ H fun vs H1 => spD X.K n dc vs H1 Q (E σ) := by
  obtain ⟨B, Fz, ρ, S, h⟩ := h
  refine liftA.of ma (Ex.refl _) S h fun as ρ1 h vs F1 H1 e1 S1 r1 => ?_
  obtain ⟨hlen, hbo, h⟩ := h
  refine call_data (XX := xl X.K W B Fz σ) (KK := fun r ρ' => ∀ v F' H', Ex Fz F' → St X.K B F' ρ' σ H' → Rep X.K F' v r.toD → Q v H') hlen S1 r1 hbo m h (fun x ρ' h F' H' dd v e S' h1 h2 => hE _ _ _ _ (h F' H' dd v (e1.trans e) S' h1 h2)) fun r ρ' h v F' H' e S' h1 => ?_
  obtain ⟨F2, e2, S2, r2⟩ := h1.toD S'
  exact h v F2 H' ((e1.trans e).trans e2) S2 r2
theorem pd_call {k : Nat} {f : Addr} {fd : FuncData} {ps : List Str} {x : Str} {n : Nat} (m : MonoC dc) (F : FnOk X.prog X.w X.K X.mg X.base (L2.CX X.prog X.w) k f fd ps (spD X.K n dc)) (hr : Room k X.A) (hg : Gl X x) (hm : X.mg x = some (.ref f)) (hk : PySem.W.keepIn X.K (.ref f) = true) (hb : Binds X.K fd ps [])
    (tk : Takes X W) (ha : PDA X W (e :: es) das) (hdb : (x == ("__debug__" : Str)) = false := by decide) (he : starEach (e :: es) X.env = (false, eval e X.env) :: starEach es X.env := by rfl) (hpl : (backTo pos (starEach es X.env)).any (·.1) = false := by rfl) :
    PD X W (.Call (.Name x p) (e :: es) [] pos) (eCall n dc das) := by
  refine ⟨mono_eCall m ha.mono, PE.imp (pe_callSD (E := WE W) F hr hg hm hk hb .nil (fun σ => passAt tk σ) ha.run hdb he hpl) fun σ H Q h => ?_⟩
  show liftA _ _ _ _ _ fun vs H1 => spD _ _ _ (vs ++ []) _ _ _
  have := callT (E := WE W) (fun σ cls d H h => h) m ha.mono h
  simpa using this
/-- .. whose result is one's own -/
def nCall (n : Nat) (dc : DC) (das : DAs) : NE := fun ρ X K => das ρ X fun as ρ1 => as.length = n ∧ borOk ρ1 as = true ∧ dc (argsOf ρ1 as) (fun x outs => X x (putOuts as outs ρ1)) fun r outs => match r with
  | .d _ => False
  | .nw c => K c (putOuts as outs ρ1)
theorem pn_call {k : Nat} {f : Addr} {fd : FuncData} {ps : List Str} {x : Str} {n : Nat} (m : MonoC dc) (F : FnOk X.prog X.w X.K X.mg X.base (L2.CX X.prog X.w) k f fd ps (spD X.K n dc)) (hr : Room k X.A) (hg : Gl X x) (hm : X.mg x = some (.ref f)) (hk : PySem.W.keepIn X.K (.ref f) = true) (hb : Binds X.K fd ps [])
    (tk : Takes X W) (ha : PDA X W (e :: es) das) (hdb : (x == ("__debug__" : Str)) = false := by decide) (he : starEach (e :: es) X.env = (false, eval e X.env) :: starEach es X.env := by rfl) (hpl : (backTo pos (starEach es X.env)).any (·.1) = false := by rfl) :
    PN X W (.Call (.Name x p) (e :: es) [] pos) (nCall n dc das) := by
  refine ⟨⟨fun hx hk h => ha.mono.go hx (fun as ρ h => ⟨h.1, h.2.1, m.go (fun x o h => hx _ _ h) (fun r o h => by
    cases r with
    | d x => exact h.elim
    | nw c => exact hk _ _ h) h.2.2⟩) h⟩, PE.imp (pe_callSD (E := WE W) F hr hg hm hk hb .nil (fun σ => passAt tk σ) ha.run hdb he hpl) fun σ H Q ⟨B, Fz, ρ, S, h⟩ => ?_⟩
  refine liftA.of ha.mono (Ex.refl _) S h fun as ρ1 h vs F1 H1 e1 S1 r1 => ?_
  obtain ⟨hlen, hbo, h⟩ := h
  show spD _ _ _ (vs ++ []) _ _ _
  rw [List.append_nil]
  refine call_data (XX := xl X.K W B Fz σ) (KK := fun r ρ' => match r with
    | .d _ => False
    | .nw c => ∀ v F' H', Ex Fz F' → St X.K B F' ρ' σ H' → NwR X.K B F' ρ' σ H' v c → Q v H') hlen S1 r1 hbo m h (fun x ρ' h F' H' dd v e S' h1 h2 => h F' H' dd v (e1.trans e) S' h1 h2) fun r ρ' h v F' H' e S' h1 => ?_
  cases h1 with
  | d _ => exact h.elim
  | nw n => exact h v F' H' (e1.trans e) S' n
/-- no arguments -/
theorem pd_call0 {k : Nat} {f : Addr} {fd : FuncData} {ps : List Str} {x : Str} (m : MonoC dc) (F : FnOk X.prog X.w X.K X.mg X.base (L2.CX X.prog X.w) k f fd ps (spD X.K 0 dc)) (hr : Room k X.A) (hg : Gl X x) (hm : X.mg x = some (.ref f)) (hk : PySem.W.keepIn X.K (.ref f) = true) (hb : Binds X.K fd ps [])
    {E : XK} (hx : Passes (L2.CX X.prog X.w) X E) (hdb : (x == ("__debug__" : Str)) = false := by decide) : PD X (fun cls d _ H => E cls d H) (.Call (.Name x p) [] [] pos) (eCall 0 dc aNil) := by
  refine ⟨mono_eCall m mono_aNil, PE.imp (pe_call0 F hr hg hm hk hb .nil hx hdb) fun σ H Q h => ?_⟩
  obtain ⟨B, Fz, ρ, S, h⟩ := h
  obtain ⟨hlen, hbo, h⟩ := h
  show spD _ _ _ ([] ++ []) _ _ _
  refine call_data (as := []) (XX := xl X.K (fun cls d _ H => E cls d H) B Fz σ) (KK := fun r ρ' => ∀ v F' H', Ex Fz F' → St X.K B F' ρ' σ H' → Rep X.K F' v r.toD → Q v H') rfl S trivial rfl m h (fun x ρ' h F' H' dd v e S' h1 h2 => h F' H' dd v e S' h1 h2) fun r ρ' h v F' H' e S' h1 => ?_
  obtain ⟨F2, e2, S2, r2⟩ := h1.toD S'
  exact h v F2 H' (e.trans e2) S2 r2
end
end DL
set_option Elab.async false
set_option linter.all false
set_option maxRecDepth 100000
set_option maxHeartbeats 1000000
/-! DL7: statements, targets, loops, a def's body. -/
namespace DL
open PySem L2 Evl
variable [Tbs]
structure DP where
  nx : Env → Prop
  rt : Rv → Env → Prop
  bk : Env → Prop
  ct : Env → Prop
  ex : XP
abbrev DS := Env → DP → Prop
structure DP.Le (P P' : DP) : Prop where
  nx : ∀ ρ, P.nx ρ → P'.nx ρ
  rt : ∀ r ρ, P.rt r ρ → P'.rt r ρ
  bk : ∀ ρ, P.bk ρ → P'.bk ρ
  ct : ∀ ρ, P.ct ρ → P'.ct ρ
  ex : ∀ x ρ, P.ex x ρ → P'.ex x ρ
theorem DP.Le.refl (P : DP) : P.Le P := ⟨fun _ h => h, fun _ _ h => h, fun _ h => h, fun _ h => h, fun _ _ h => h⟩
structure MonoS (ds : DS) : Prop where
  go : ∀ {ρ P P'}, DP.Le P P' → ds ρ P → ds ρ P'
def postL (K : PySem.W.Frag) (W : WX) (B : Base) (F : Hp) (D : Ends) : DP where
  nx := fun ρ' => ∀ F' σ' H', Ex F F' → St K B F' ρ' σ' H' → D.nx σ' H'
  rt := fun r ρ' => ∀ v F' σ' H', Ex F F' → St K B F' ρ' σ' H' → RzR K B F' ρ' σ' H' v r → D.rt v H'
  bk := fun ρ' => ∀ F' σ' H', Ex F F' → St K B F' ρ' σ' H' → D.bk σ' H'
  ct := fun ρ' => ∀ F' σ' H', Ex F F' → St K B F' ρ' σ' H' → D.ct σ' H'
  ex := fun x ρ' => ∀ F' σ' H' dd v, Ex F F' → St K B F' ρ' σ' H' → F' dd = some (.xd [(x.f, v)]) → Rep K F' v x.d → W (.ref x.C) (some dd) σ' H'
def liftS (K : PySem.W.Frag) (W : WX) (ds : DS) : TS := fun D σ H => ∃ B F ρ, St K B F ρ σ H ∧ ds ρ (postL K W B F D)
section
variable {K : PySem.W.Frag} {W : WX} {B : Base} {F0 F : Hp} {ρ : Env} {σ : L2.St} {H : Hp} {En : Ends}
theorem postL_up (e : Ex F0 F) : (postL K W B F0 En).Le (postL K W B F En) :=
  ⟨fun ρ h F' σ' H' e' => h F' σ' H' (e.trans e'), fun r ρ h v F' σ' H' e' => h v F' σ' H' (e.trans e'), fun ρ h F' σ' H' e' => h F' σ' H' (e.trans e'), fun ρ h F' σ' H' e' => h F' σ' H' (e.trans e'),
    fun x ρ h F' σ' H' dd v e' => h F' σ' H' dd v (e.trans e')⟩
theorem DP.Le.trans {P Q R : DP} (a : P.Le Q) (b : Q.Le R) : P.Le R := ⟨fun ρ h => b.nx ρ (a.nx ρ h), fun r ρ h => b.rt r ρ (a.rt r ρ h), fun ρ h => b.bk ρ (a.bk ρ h), fun ρ h => b.ct ρ (a.ct ρ h), fun x ρ h => b.ex x ρ (a.ex x ρ h)⟩
theorem liftS.of {ds : DS} {P : DP} (m : MonoS ds) (S : St K B F ρ σ H) (h : ds ρ P) (le : P.Le (postL K W B F En)) : liftS K W ds En σ H := ⟨B, F, ρ, S, m.go le h⟩
/-- a statement's wish of exceptions is its expressions' -/
theorem ex_xl (x : Exn) (ρ' : Env) (h : (postL K W B F En).ex x ρ') : xl K W B F σ x ρ' := fun F' H' dd v e S h1 r => h F' σ H' dd v e S h1 r
theorem liftE.ofS {de : DE} {k : D → Env → Prop} {Q : VK} (m : MonoE de) (S : St K B F ρ σ H) (h : de ρ (postL K W B F En).ex k) (hk : ∀ r ρ1, k r ρ1 → ∀ v F1 H1, Ex F F1 → St K B F1 ρ1 σ H1 → Rep K F1 v r → Q v H1) : liftE K W de σ H Q :=
  ⟨B, F, ρ, S, m.go ex_xl hk h⟩
theorem liftT.ofS {de : DT} {k : Bool → Env → Prop} {Q : Bool → Hp → Prop} (m : MonoT de) (S : St K B F ρ σ H) (h : de ρ (postL K W B F En).ex k) (hk : ∀ r ρ1, k r ρ1 → ∀ F1 H1, Ex F F1 → St K B F1 ρ1 σ H1 → Q r H1) : liftT K W de σ H Q :=
  ⟨B, F, ρ, S, m.go ex_xl hk h⟩
theorem liftN.ofS {de : NE} {k : Ct → Env → Prop} {Q : VK} (m : MonoN de) (S : St K B F ρ σ H) (h : de ρ (postL K W B F En).ex k) (hk : ∀ r ρ1, k r ρ1 → ∀ v F1 H1, Ex F F1 → St K B F1 ρ1 σ H1 → NwR K B F1 ρ1 σ H1 v r → Q v H1) : liftN K W de σ H Q :=
  ⟨B, F, ρ, S, m.go ex_xl hk h⟩
end
structure PDS (X : Cx) (W : WX) (st : Stmt) (ds : DS) : Prop where
  mono : MonoS ds
  run : PS X st (liftS X.K W ds)
structure PDSs (X : Cx) (W : WX) (st : List Stmt) (ds : DS) : Prop where
  mono : MonoS ds
  run : PSs X st (liftS X.K W ds)
section
variable {X : Cx} {W : WX} {a b c e : Expr} {da db : DE} {das : DAs} {dn : NE} {ta : DT} {st : Stmt} {rest : List Stmt} {s t : DS} {pos p : Pos}
def dNext : DS := fun ρ P => P.nx ρ
def dSeq (s t : DS) : DS := fun ρ P => s ρ { P with nx := fun ρ' => t ρ' P }
theorem mono_dSeq (m1 : MonoS s) (m2 : MonoS t) : MonoS (dSeq s t) := ⟨fun {ρ P P'} le h => m1.go (P := { P with nx := fun ρ' => t ρ' P }) (P' := { P' with nx := fun ρ' => t ρ' P' }) ⟨fun ρ h => m2.go le h, le.rt, le.bk, le.ct, le.ex⟩ h⟩
theorem pdss_nil : PDSs X W [] dNext := ⟨⟨fun le h => le.nx _ h⟩, PSs.imp pss_nil fun D σ H ⟨B, F, ρ, S, h⟩ => h F σ H (Ex.refl _) S⟩
theorem pdss_one (h : PDS X W st s) : PDSs X W [st] s := ⟨h.mono, pss_one h.run⟩
theorem pdss_cons (h1 : PDS X W st s) (h2 : PDSs X W rest t) : PDSs X W (st :: rest) (dSeq s t) :=
  ⟨mono_dSeq h1.mono h2.mono, PSs.imp (pss_cons h1.run h2.run) fun D σ H ⟨B, F, ρ, S, h⟩ => ⟨B, F, ρ, S, h1.mono.go (P := { postL X.K W B F D with nx := fun ρ' => t ρ' (postL X.K W B F D) }) ⟨fun ρ' h F' σ' H' e S' => ⟨B, F', ρ', S', h2.mono.go (postL_up e) h⟩, fun r ρ' h => h, fun ρ' h => h, fun ρ' h => h, fun x ρ' h => h⟩ h⟩⟩
theorem pds_pass : PDS X W (.Pass pos) dNext := ⟨⟨fun le h => le.nx _ h⟩, PS.imp ps_pass fun D σ H ⟨B, F, ρ, S, h⟩ => h F σ H (Ex.refl _) S⟩
def dBreak : DS := fun ρ P => P.bk ρ
def dCont : DS := fun ρ P => P.ct ρ
theorem pds_break : PDS X W (.Break pos) dBreak := ⟨⟨fun le h => le.bk _ h⟩, PS.imp ps_break fun D σ H ⟨B, F, ρ, S, h⟩ => h F σ H (Ex.refl _) S⟩
theorem pds_continue : PDS X W (.Continue pos) dCont := ⟨⟨fun le h => le.ct _ h⟩, PS.imp ps_continue fun D σ H ⟨B, F, ρ, S, h⟩ => h F σ H (Ex.refl _) S⟩
def dNever : DS := fun _ _ => False
theorem pds_never : PDS X W st dNever := ⟨⟨fun _ h => h⟩, PS.imp ps_never fun D σ H ⟨B, F, ρ, S, h⟩ => h⟩
def dRet (de : DE) : DS := fun ρ P => de ρ P.ex fun d ρ' => P.rt (.d d) ρ'
def dRetN (de : NE) : DS := fun ρ P => de ρ P.ex fun c ρ' => P.rt (.nw c) ρ'
theorem pds_ret (h : PD X W e da) : PDS X W (.Return (some e) pos) (dRet da) :=
  ⟨⟨fun le q => h.mono.go le.ex (fun d ρ q => le.rt _ _ q) q⟩, PS.imp (ps_ret h.run) fun D σ H ⟨B, F, ρ, S, q⟩ => liftE.ofS h.mono S q fun d ρ1 q v F1 H1 e1 S1 r1 => q v F1 σ H1 e1 S1 (.d r1)⟩
theorem pds_retN (h : PN X W e dn) : PDS X W (.Return (some e) pos) (dRetN dn) :=
  ⟨⟨fun le q => h.mono.go le.ex (fun d ρ q => le.rt _ _ q) q⟩, PS.imp (ps_ret h.run) fun D σ H ⟨B, F, ρ, S, q⟩ => liftN.ofS h.mono S q fun d ρ1 q v F1 H1 e1 S1 r1 => q v F1 σ H1 e1 S1 (.nw r1)⟩
def dRet0 : DS := fun ρ P => P.rt (.d .none) ρ
theorem pds_ret0 : PDS X W (.Return none pos) dRet0 := ⟨⟨fun le h => le.rt _ _ h⟩, PS.imp ps_retN fun D σ H ⟨B, F, ρ, S, h⟩ => h .non F σ H (Ex.refl _) S (.d .none)⟩
def dDrop (de : DE) : DS := fun ρ P => de ρ P.ex fun _ ρ' => P.nx ρ'
theorem pds_expr (h : PD X W e da) (hs : swapsWith e none pos.line X.env = pure false := by rfl) : PDS X W (.Expr e pos) (dDrop da) :=
  ⟨⟨fun le q => h.mono.go le.ex (fun d ρ q => le.nx _ q) q⟩, PS.imp (ps_expr h.run hs) fun D σ H ⟨B, F, ρ, S, q⟩ => liftE.ofS h.mono S q fun d ρ1 q v F1 H1 e1 S1 r1 => q F1 σ H1 e1 S1⟩
def dIf (c : DT) (s t : DS) : DS := fun ρ P => c ρ P.ex fun b ρ1 => if b = true then s ρ1 P else t ρ1 P
theorem pds_if {ss tt : List Stmt} (hc : PDT X W c ta) (h1 : PDSs X W ss s) (h2 : PDSs X W tt t) : PDS X W (.If c ss tt pos) (dIf ta s t) :=
  ⟨⟨fun le q => hc.mono.go le.ex (fun b ρ q => by
    cases b with
    | true => exact h1.mono.go le q
    | false => exact h2.mono.go le q) q⟩, PS.imp (ps_if hc.run h1.run h2.run) fun D σ H ⟨B, F, ρ, S, q⟩ => liftT.ofS hc.mono S q fun b ρ1 q F1 H1 e1 S1 => by
    cases b with
    | true => exact liftS.of h1.mono S1 q (postL_up e1)
    | false => exact liftS.of h2.mono S1 q (postL_up e1)⟩

/-! ### targets -/
abbrev DG := D → Env → (Env → Prop) → Prop
structure MonoG (g : DG) : Prop where
  go : ∀ {d ρ k k'}, (∀ ρ, k ρ → k' ρ) → g d ρ k → g d ρ k'
structure PDG (X : Cx) (tg : Expr) (g : TG) (dg : DG) (is : List Nat) : Prop where
  mono : MonoG dg
  pg : PG X tg g
  run : ∀ {B F ρ σ H v d k Q}, St X.K B F ρ σ H → Rep X.K F v d → dg d ρ k → (∀ ρ', k ρ' → ∀ F' σ' H', Ex F F' → σ'.length = σ.length → (∀ j, j ∉ is → σ'[j]? = σ[j]?) → St X.K B F' ρ' σ' H' → Q σ' H') → g v σ H Q
def dgName (i : Nat) : DG := fun d ρ k => k (ρ.set i (.fz d))
theorem St.set_fz' {K : PySem.W.Frag} {B : Base} {F : Hp} {ρ : Env} {σ : L2.St} {H : Hp} (S : St K B F ρ σ H) {i : Nat} {v : V} {d : D} (r : Rep K F v d) : St K B F (ρ.set i (.fz d)) (σ.set i (some v)) H := by
  by_cases h : i < σ.length
  · exact S.set_fz h (by rw [← S.len]; exact h) r
  · rw [List.set_eq_of_length_le (by rw [← S.len]; omega), List.set_eq_of_length_le (by omega)]; exact S
theorem pdg_name (i : Nat) {x : Str} (hN : X.N.Nodup) (hi : X.N[i]? = some x) (hx : Loc X.env.scope x) (hf : X.fn x = true ∨ X.env.scope.names.lookup x = some .local := by first | exact .inl rfl | exact .inr rfl | assumption) : PDG X (.Name x pos) (gName i) (dgName i) [i] :=
  ⟨⟨fun hk h => hk _ h⟩, pg_name hN hi hx hf, fun {B F ρ σ H v d k Q} S r h hq => hq _ h F _ H (Ex.refl _) (by simp) (fun j hj => List.getElem?_set_ne (by intro z; exact hj (by simp [z]))) (S.set_fz' r)⟩
/-- several targets, one after another -/
abbrev DGs := List D → Env → (Env → Prop) → Prop
structure MonoGs (g : DGs) : Prop where
  go : ∀ {d ρ k k'}, (∀ ρ, k ρ → k' ρ) → g d ρ k → g d ρ k'
structure PDGs (X : Cx) (tgs : List Expr) (g : TGs) (dg : DGs) (is : List Nat) : Prop where
  mono : MonoGs dg
  pg : PGs X tgs g
  run : ∀ {B F ρ σ H vs ds k Q}, St X.K B F ρ σ H → Reps X.K F vs ds → dg ds ρ k → (∀ ρ', k ρ' → ∀ F' σ' H', Ex F F' → σ'.length = σ.length → (∀ j, j ∉ is → σ'[j]? = σ[j]?) → St X.K B F' ρ' σ' H' → Q σ' H') → g vs σ H Q
def dgNil : DGs := fun ds ρ k => ds = [] ∧ k ρ
def dgCons (g : DG) (gs : DGs) : DGs := fun ds ρ k => match ds with
  | d :: ds => g d ρ fun ρ' => gs ds ρ' k
  | [] => False
theorem pdgs_nil : PDGs X [] gNil dgNil [] := ⟨⟨fun hk h => ⟨h.1, hk _ h.2⟩⟩, pgs_nil, fun {B F ρ σ H vs ds k Q} S r h hq => by
  obtain ⟨rfl, h⟩ := h
  cases r
  exact ⟨rfl, hq _ h F σ H (Ex.refl _) rfl (fun _ _ => rfl) S⟩⟩
theorem pdgs_cons {tgs : List Expr} {g : TG} {gs : TGs} {dg : DG} {dgs : DGs} {i1 i2 : List Nat} (h1 : PDG X e g dg i1) (h2 : PDGs X tgs gs dgs i2) (hs : (assignEach (e :: tgs) X.env).map (·.2) = assign e X.env :: (assignEach tgs X.env).map (·.2) := by rfl) : PDGs X (e :: tgs) (gCons g gs) (dgCons dg dgs) (i1 ++ i2) :=
  ⟨⟨fun {d ρ k k'} hk h => by
    cases d with
    | nil => exact h.elim
    | cons x xs => exact h1.mono.go (fun ρ h => h2.mono.go hk h) h⟩, pgs_cons h1.pg h2.pg hs, fun {B F ρ σ H vs ds k Q} S r h hq => by
    cases r with
    | nil => exact h.elim
    | cons r t => exact ⟨_, _, rfl, h1.run S r h fun ρ' h F' σ' H' e1 l1 o1 S' => h2.run S' (t.mono e1) h fun ρ2 h F2 σ2 H2 e2 l2 o2 S2 => hq _ h F2 σ2 H2 (e1.trans e2) (l2.trans l1) (fun j hj => (o2 j fun z => hj (by simp [z])).trans (o1 j fun z => hj (by simp [z]))) S2⟩⟩
def dgTup (n : Nat) (gs : DGs) : DG := fun d ρ k => match d with
  | .tuple xs => xs.length = n ∧ gs xs ρ k
  | _ => False
theorem pdg_tup {tgs : List Expr} {k : Nat} {gs : TGs} {dgs : DGs} {n : Nat} {is : List Nat} (hc : X.calm = true) (h : PDGs X tgs gs dgs is) (hn : (assignEach tgs X.env).length = n := by rfl) (hst : (assignEach tgs X.env).findIdx? (·.1) = none := by rfl) : PDG X (.Tuple tgs k pos) (gTup X.K n gs) (dgTup n dgs) is :=
  ⟨⟨fun {d ρ k k'} hk q => by
    cases d <;> try exact q.elim
    exact ⟨q.1, h.mono.go hk q.2⟩⟩, pg_tup hc h.pg hn hst, fun {B F ρ σ H v d k Q} S r q hq => by
    cases d <;> try exact q.elim
    obtain ⟨p, vs, rfl, e1, r⟩ := r.tuple_inv
    exact ⟨p, vs, rfl, xl_t S.ex e1, by rw [r.length]; exact q.1, h.run S r q.2 hq⟩⟩
def dAsg (de : DE) (g : DG) : DS := fun ρ P => de ρ P.ex fun d ρ1 => g d ρ1 fun ρ2 => P.nx ρ2
theorem mono_dAsg {g : DG} (m : MonoE da) (mg : MonoG g) : MonoS (dAsg da g) := ⟨fun le q => m.go le.ex (fun d ρ q => mg.go (fun ρ q => le.nx _ q) q) q⟩
theorem pds_asg {tg : Expr} {g : TG} {dg : DG} {is : List Nat} (h : PD X W e da) (hg : PDG X tg g dg is) (hs : swapsWithSole [tg] e pos.line X.env = pure false := by rfl) (hw : swappedStores [tg] e X.env = pure none := by rfl)
    (h1 : (assignEach [tg] X.env).map (·.2) = [assign tg X.env] := by rfl) : PDS X W (.Assign [tg] e pos) (dAsg da dg) :=
  ⟨mono_dAsg h.mono hg.mono, PS.imp (ps_asg h.run hg.pg hs hw h1) fun D σ H ⟨B, F, ρ, S, q⟩ => liftE.ofS h.mono S q fun d ρ1 q v F1 H1 e1 S1 r1 => hg.run S1 r1 q fun ρ2 q F2 σ2 H2 e2 _ _ S2 => q F2 σ2 H2 (e1.trans e2) S2⟩
theorem pds_set {i : Nat} {x : Str} {pos' : Pos} (hN : X.N.Nodup) (hi : X.N[i]? = some x) (hx : Loc X.env.scope x) (h : PD X W e da) (hs : swapsWith e (some (.Name x pos')) pos.line X.env = pure false := by rfl) (hf : X.fn x = true ∨ X.env.scope.names.lookup x = some .local := by first | exact .inl rfl | exact .inr rfl | assumption) :
    PDS X W (.Assign [.Name x pos'] e pos) (dAsg da (dgName i)) :=
  ⟨mono_dAsg h.mono ⟨fun hk h => hk _ h⟩, PS.imp (ps_set hN hi hx h.run hs hf) fun D σ H ⟨B, F, ρ, S, q⟩ => liftE.ofS h.mono S q fun d ρ1 q v F1 H1 e1 S1 r1 => q F1 _ H1 e1 (S1.set_fz' r1)⟩
/-- a new object into a slot: one's own from now on -/
def dOwn (de : NE) (i : Nat) : DS := fun ρ P => de ρ P.ex fun c ρ1 => P.nx (ρ1.set i (.ow false c))
theorem St.set_ow' {K : PySem.W.Frag} {B : Base} {F : Hp} {ρ : Env} {σ : L2.St} {H : Hp} (S : St K B F ρ σ H) {i : Nat} {v : V} {c : Ct} (n : NwR K B F ρ σ H v c) : St K B F (ρ.set i (.ow false c)) (σ.set i (some v)) H := by
  obtain ⟨a, rfl, o, h0, no⟩ := n.ex
  by_cases h : i < σ.length
  · exact S.set_ow h (by rw [← S.len]; exact h) o h0 fun j _ hj => no j hj
  · rw [List.set_eq_of_length_le (by rw [← S.len]; omega), List.set_eq_of_length_le (by omega)]; exact S
theorem pds_own {i : Nat} {x : Str} {pos' : Pos} (hN : X.N.Nodup) (hi : X.N[i]? = some x) (hx : Loc X.env.scope x) (h : PN X W e dn) (hs : swapsWith e (some (.Name x pos')) pos.line X.env = pure false := by rfl) (hf : X.fn x = true ∨ X.env.scope.names.lookup x = some .local := by first | exact .inl rfl | exact .inr rfl | assumption) :
    PDS X W (.Assign [.Name x pos'] e pos) (dOwn dn i) :=
  ⟨⟨fun le q => h.mono.go le.ex (fun c ρ q => le.nx _ q) q⟩, PS.imp (ps_set hN hi hx h.run hs hf) fun D σ H ⟨B, F, ρ, S, q⟩ => liftN.ofS h.mono S q fun d ρ1 q v F1 H1 e1 S1 r1 => q F1 _ H1 e1 (S1.set_ow' r1)⟩
/-- x op= e on ints -/
def dAug (i : Nat) (f : DOp) (de : DE) : DS := fun ρ P => ofFz (gt ρ i) fun x => de ρ P.ex fun y ρ1 => f x y fun z => P.nx (ρ1.set i (.fz z))
theorem pds_aug {i : Nat} {x : Str} {op : Operator} {r : R2} {f : DOp} {pos' : Pos} (hN : X.N.Nodup) (hi : X.N[i]? = some x) (hx : Loc X.env.scope x) (ho : OpR X (inplaceOp op) r) (hr : ROp X.K r f) (h : PD X W e da) (hf : X.fn x = true ∨ X.env.scope.names.lookup x = some .local := by first | exact .inl rfl | exact .inr rfl | assumption) :
    PDS X W (.AugAssign (.Name x pos') op e pos) (dAug i f da) :=
  ⟨⟨fun le q => by
    obtain ⟨x, e1, q⟩ := ofFz.eq q
    show ofFz _ _
    rw [e1]
    exact h.mono.go le.ex (fun c ρ q => hr.mono.go (fun z q => le.nx _ q) q) q⟩, PS.imp (ps_aug (ti := r) hN hi hx h.run ho hf) fun D σ H ⟨B, F, ρ, S, q⟩ => by
    obtain ⟨x, e1, q⟩ := ofFz.eq q
    obtain ⟨v, ev, rv⟩ := S.fz e1
    exact ⟨v, ev, liftE.ofS h.mono S q fun d ρ1 q w F1 H1 e1 S1 r1 => hr.run S1 (rv.mono e1) r1 q fun z q u F' H' e2 S2 r2 => q F' _ H' (e1.trans e2) (S2.set_fz' r2)⟩⟩

/-! ### while -/
def whileN (c : DT) (b : DS) : Nat → Env → DP → Prop
  | 0, _, _ => False
  | n + 1, ρ, P => c ρ P.ex fun t ρ1 => if t = true then b ρ1 { P with nx := fun ρ' => whileN c b n ρ' P, ct := fun ρ' => whileN c b n ρ' P, bk := P.nx } else P.nx ρ1
def dWhile (c : DT) (b : DS) : DS := fun ρ P => ∃ n, whileN c b n ρ P
theorem mono_whileN (mc : MonoT ta) (mb : MonoS s) : ∀ n, MonoS (whileN ta s n)
  | 0 => ⟨fun _ h => h⟩
  | n + 1 => ⟨fun {ρ P P'} le h => mc.go le.ex (fun t ρ h => by
    cases t with
    | true =>
      exact mb.go (P := { P with nx := fun ρ' => whileN ta s n ρ' P, ct := fun ρ' => whileN ta s n ρ' P, bk := P.nx }) (P' := { P' with nx := fun ρ' => whileN ta s n ρ' P', ct := fun ρ' => whileN ta s n ρ' P', bk := P'.nx })
        ⟨fun ρ h => (mono_whileN mc mb n).go le h, le.rt, le.nx, fun ρ h => (mono_whileN mc mb n).go le h, le.ex⟩ h
    | false => exact le.nx _ h) h⟩
theorem pds_while {c : Expr} {body : List Stmt} (hp : PassesOwn (model X.prog X.w) X.A X.env X.xe) (hc : PDT X W c ta) (hb : PDSs X W body s) : PDS X W (.While c body [] pos) (dWhile ta s) :=
  ⟨⟨fun le ⟨n, h⟩ => ⟨n, (mono_whileN hc.mono hb.mono n).go le h⟩⟩, PS.imp (ps_while hp hc.run hb.run) fun D σ H ⟨B, F, ρ, S, n, h⟩ => by
    refine ⟨fun m σ' H' => ∃ F' ρ', Ex F F' ∧ St X.K B F' ρ' σ' H' ∧ whileN ta s m ρ' (postL X.K W B F D), ⟨n, F, ρ, Ex.refl _, S, h⟩, ?_⟩
    rintro m σ' H' ⟨F', ρ', e, S', h'⟩
    cases m with
    | zero => exact h'.elim
    | succ m =>
      refine liftT.of hc.mono (Ex.refl _) S' (hc.mono.go (fun x ρ h => xl_up e x ρ (ex_xl x ρ h)) (fun _ _ h => h) h') fun t ρ1 h1 F1 H1 e1 S1 => ?_
      cases t with
      | true => exact ⟨_, fun _ _ q => ⟨m, Nat.lt_succ_self m, q⟩, liftS.of hb.mono S1 h1 ⟨fun ρ2 h2 F2 σ2 H2 e2 S2 => ⟨F2, ρ2, (e.trans e1).trans e2, S2, h2⟩, (postL_up (W := W) (e.trans e1)).rt, fun ρ2 h2 F2 σ2 H2 e2 S2 => h2 F2 σ2 H2 ((e.trans e1).trans e2) S2,
          fun ρ2 h2 F2 σ2 H2 e2 S2 => ⟨F2, ρ2, (e.trans e1).trans e2, S2, h2⟩, (postL_up (W := W) (e.trans e1)).ex⟩⟩
      | false => exact h1 F1 σ' H1 (e.trans e1) S1⟩

/-! ### what is walked -/
abbrev DI := Env → XP → (List D → Env → Prop) → Prop
structure MonoI (de : DI) : Prop where
  go : ∀ {ρ X X' K K'}, (∀ x ρ, X x ρ → X' x ρ) → (∀ r ρ, K r ρ → K' r ρ) → de ρ X K → de ρ X' K'
/-- the iterator gives the data ds, from F on -/
def Yld (K : PySem.W.Frag) (G0 F0 : Hp) (J : It) (ds : List D) : Prop := ∀ B F ρ σ H, Ex G0 B.G → Ex F0 F → St K B F ρ σ H → (∀ i, i < ds.length → J.go i H) ∧ J.stop ds.length H ∧
  ∀ i d x H', ds[i]? = some d → J.yld i H x H' → ∃ F', Ex F F' ∧ St K B F' ρ σ H' ∧ Rep K F' x d
def liftI (K : PySem.W.Frag) (W : WX) (di : DI) : TI := fun σ H R => ∃ B F ρ, St K B F ρ σ H ∧ di ρ (xl K W B F σ) fun ds ρ' => ∀ J B' F' H', B.Le B' → Ex F F' → St K B' F' ρ' σ H' → Yld K B'.G F' J ds → R J H'
structure PDI (X : Cx) (W : WX) (tg e : Expr) (di : DI) : Prop where
  mono : MonoI di
  run : PI X tg e (liftI X.K W di)
def forL (g : DG) (b : DS) : List D → Env → DP → Prop
  | [], ρ, P => P.nx ρ
  | d :: ds, ρ, P => g d ρ fun ρ1 => b ρ1 { P with nx := fun ρ' => forL g b ds ρ' P, ct := fun ρ' => forL g b ds ρ' P, bk := P.nx }
def dFor (di : DI) (g : DG) (b : DS) : DS := fun ρ P => di ρ P.ex fun ds ρ1 => forL g b ds ρ1 P
theorem mono_forL {g : DG} (mg : MonoG g) (mb : MonoS s) : ∀ ds, MonoS (forL g s ds)
  | [] => ⟨fun le h => le.nx _ h⟩
  | d :: ds => ⟨fun {ρ P P'} le h => mg.go (fun ρ h => mb.go (P := { P with nx := fun ρ' => forL g s ds ρ' P, ct := fun ρ' => forL g s ds ρ' P, bk := P.nx }) (P' := { P' with nx := fun ρ' => forL g s ds ρ' P', ct := fun ρ' => forL g s ds ρ' P', bk := P'.nx })
      ⟨fun ρ h => (mono_forL mg mb ds).go le h, le.rt, le.nx, fun ρ h => (mono_forL mg mb ds).go le h, le.ex⟩ h) h⟩
theorem for_turn {tg : Expr} {body : List Stmt} {g : TG} {dg : DG} {is : List Nat} {B B' : Base} {F F1 : Hp} {ρ1 : Env} {σ : L2.St} {H1 : Hp} {J : It} {ds : List D} {D : Ends} (hg : PDG X tg g dg is) (mb : MonoS s) (l : B.Le B') (e1 : Ex F F1) (S1 : St X.K B' F1 ρ1 σ H1) (Y : Yld X.K B'.G F1 J ds) (h : forL dg s ds ρ1 (postL X.K W B F D)) :
    ∃ W' : Nat → Nat → L2.St → Hp → Prop, (∃ m, W' 0 m σ H1) ∧ ∀ i m σ H, W' i m σ H →
      (J.stop i H ∧ D.nx σ H) ∨ (J.go i H ∧ ∃ N : L2.St → Hp → Prop, (∀ σ' H', N σ' H' → ∃ m', m' < m ∧ W' (i + 1) m' σ' H') ∧ ∀ x H', J.yld i H x H' → g x σ H' fun σ2 H2 => liftS X.K W s { D with nx := N, ct := N, bk := D.nx } σ2 H2) := by
  refine ⟨fun i m σ' H' => ∃ F' ρ', Ex F1 F' ∧ St X.K B' F' ρ' σ' H' ∧ m = ds.length - i ∧ i ≤ ds.length ∧ forL dg s (ds.drop i) ρ' (postL X.K W B F1 D), ⟨ds.length, F1, ρ1, Ex.refl _, S1, rfl, Nat.zero_le _, (mono_forL hg.mono mb _).go (postL_up e1) h⟩, ?_⟩
  rintro i m σ' H' ⟨F', ρ', e', S', rfl, hi', h'⟩
  obtain ⟨y1, y2, y3⟩ := Y B' F' ρ' σ' H' (Ex.refl _) e' S'
  by_cases hlt : i < ds.length
  · have hd : ds.drop i = ds[i] :: ds.drop (i + 1) := List.drop_eq_getElem_cons hlt
    rw [hd] at h'
    refine .inr ⟨y1 i hlt, fun σ2 H2 => ∃ F2 ρ2, Ex F1 F2 ∧ St X.K B' F2 ρ2 σ2 H2 ∧ forL dg s (ds.drop (i + 1)) ρ2 (postL X.K W B F1 D), fun σ2 H2 ⟨F2, ρ2, e2, S2, h2⟩ => ⟨ds.length - (i + 1), by omega, F2, ρ2, e2, S2, rfl, hlt, h2⟩, fun x H3 y => ?_⟩
    obtain ⟨F3, e3, S3, r3⟩ := y3 i ds[i] x H3 (by simp [hlt]) y
    refine hg.run S3 r3 h' fun ρ4 h4 F4 σ4 H4 e4 _ _ S4 => ?_
    have eA := (e'.trans e3).trans e4
    exact liftS.of mb S4 h4 ⟨fun ρ5 h5 F5 σ5 H5 e5 S5 => ⟨F5, ρ5, eA.trans e5, S5, h5⟩, fun r ρ5 h5 v F5 σ5 H5 e5 S5 z => h5 v F5 σ5 H5 (eA.trans e5) (S5.weaken l) (z.weaken l), fun ρ5 h5 F5 σ5 H5 e5 S5 => h5 F5 σ5 H5 (eA.trans e5) (S5.weaken l), fun ρ5 h5 F5 σ5 H5 e5 S5 => ⟨F5, ρ5, eA.trans e5, S5, h5⟩,
      fun x ρ5 h5 F5 σ5 H5 dd v e5 S5 h1 r => h5 F5 σ5 H5 dd v (eA.trans e5) (S5.weaken l) h1 r⟩
  · have e : i = ds.length := by omega
    subst e
    rw [List.drop_length] at h'
    exact .inl ⟨y2, h' F' σ' H' e' (S'.weaken l)⟩
theorem pds_for {tg it : Expr} {body : List Stmt} {di : DI} {g : TG} {dg : DG} {is : List Nat} (hp : PassesOwn (model X.prog X.w) X.A X.env X.xe) (hc : X.calm = true) (hi : PDI X W tg it di) (hg : PDG X tg g dg is) (hb : PDSs X W body s)
    (hs : ∀ x, foldedSetIterable it X.env x = pure x := by intro _; rfl) : PDS X W (.For tg it body [] pos) (dFor di dg s) :=
  ⟨⟨fun le h => hi.mono.go le.ex (fun ds ρ h => (mono_forL hg.mono hb.mono ds).go le h) h⟩, PS.imp (ps_for hp hc hi.run hg.pg hb.run hs) fun D σ H ⟨B, F, ρ, S, h⟩ =>
    ⟨B, F, ρ, S, hi.mono.go ex_xl (fun ds ρ1 h J B' F1 H1 l e1 S1 Y => for_turn (tg := tg) (body := body) hg hb.mono l e1 S1 Y h) h⟩⟩

/-! ### a def's body -/
def outsF : List Sl → Env → List Sl
  | [], _ => []
  | a :: as, s :: ρ => (match a, s with
    | .ow true _, .ow true c => .ow true c
    | _, _ => .un) :: outsF as ρ
  | _ :: as, [] => .un :: outsF as []
def postF (args : List Sl) (XX : Exn → List Sl → Prop) (R : Rv → List Sl → Prop) : DP where
  nx := fun ρ' => R (.d .none) (outsF args ρ')
  rt := fun r ρ' => R r (outsF args ρ')
  bk := fun _ => False
  ct := fun _ => False
  ex := fun x ρ' => XX x (outsF args ρ')
def fill (n : Nat) (args : List Sl) : Env := args ++ List.replicate (n - args.length) .un
theorem outsF_length : ∀ {args : List Sl} {ρ : Env}, (outsF args ρ).length = args.length
  | [], ρ => rfl
  | a :: as, [] => by simp [outsF, outsF_length (args := as)]
  | a :: as, s :: ρ => by simp [outsF, outsF_length (args := as)]
theorem outsF_at : ∀ {args : List Sl} {ρ : Env} {i : Nat}, (outsF args ρ).getD i .un = .un ∨ ∃ c c', (outsF args ρ).getD i .un = .ow true c ∧ ρ.getD i .un = .ow true c ∧ args.getD i .un = .ow true c'
  | [], ρ, i => .inl (by simp [outsF])
  | a :: as, [], 0 => .inl rfl
  | a :: as, [], i + 1 => by
    have := outsF_at (args := as) (ρ := []) (i := i)
    simpa [outsF, List.getD] using this
  | .un :: as, s :: ρ, 0 => .inl rfl
  | .fz _ :: as, s :: ρ, 0 => .inl rfl
  | .ow false _ :: as, s :: ρ, 0 => .inl rfl
  | .ow true _ :: as, .un :: ρ, 0 => .inl rfl
  | .ow true _ :: as, .fz _ :: ρ, 0 => .inl rfl
  | .ow true _ :: as, .ow false _ :: ρ, 0 => .inl rfl
  | .ow true c' :: as, .ow true c :: ρ, 0 => .inr ⟨c, c', rfl, rfl, rfl⟩
  | a :: as, s :: ρ, i + 1 => by
    have := outsF_at (args := as) (ρ := ρ) (i := i)
    simpa [outsF, List.getD] using this
theorem St.exit {K : PySem.W.Frag} {B : Base} {F F' : Hp} {args : List Sl} {ρ' : Env} {σ' : L2.St} {H H' : Hp} {vs : List V} (S : St K B F args (vs.map some) H) (S' : St K B F' ρ' σ' H') : St K B F' (outsF args ρ') (vs.map some) H' := by
  have at_ : ∀ {i c c'}, ρ'.getD i .un = .ow true c → args.getD i .un = .ow true c' → σ'[i]? = (vs.map some)[i]? := fun {i c c'} h h' => by
    obtain ⟨a, e1, _, _, h3⟩ := S'.ow h
    obtain ⟨a', e1', _, _, h3'⟩ := S.ow h'
    rw [← h3 rfl, h3' rfl]
  have is_ : ∀ {i}, isOw ((outsF args ρ').getD i .un) = true → isOw (ρ'.getD i .un) = true ∧ σ'[i]? = (vs.map some)[i]? := fun {i} h => by
    rcases outsF_at (args := args) (ρ := ρ') (i := i) with z | ⟨c, c', z1, z2, z3⟩
    · rw [z] at h; cases h
    · exact ⟨by rw [z2]; rfl, at_ z2 z3⟩
  refine ⟨S'.ex, S'.out, S'.new, S'.ge, S'.thr, by rw [outsF_length]; exact S.len, fun i => ?_, fun i j a h1 h2 e1 e2 => ?_, S'.tb⟩
  · rcases outsF_at (args := args) (ρ := ρ') (i := i) with z | ⟨c, c', z1, z2, z3⟩
    · rw [z]; trivial
    · rw [z1, ← at_ z2 z3]
      have := S'.sl i
      rw [z2] at this
      exact this
  · obtain ⟨a1, b1⟩ := is_ h1
    obtain ⟨a2, b2⟩ := is_ h2
    exact S'.own i j a a1 a2 (by rw [b1]; exact e1) (by rw [b2]; exact e2)
theorem fill_start {K : PySem.W.Frag} {B : Base} {F : Hp} {args : List Sl} {vs : List V} {H : Hp} {N : List Str} (S : St K B F args (vs.map some) H) : St K B F (fill N.length args) (L2.start N vs) H := by
  have hl : vs.length = args.length := by simpa using S.len
  have g1 : ∀ i, (fill N.length args).getD i .un = args.getD i .un := fun i => by
    unfold fill
    by_cases h : i < args.length
    · simp [List.getD, List.getElem?_append_left h]
    · rw [List.getD, List.getElem?_append_right (by omega)]
      by_cases h2 : i - args.length < N.length - args.length
      · rw [List.getElem?_replicate_of_lt h2]
        simp [List.getD, List.getElem?_eq_none (show args.length ≤ i by omega)]
      · rw [List.getElem?_eq_none (by simp; omega)]
        simp [List.getD, List.getElem?_eq_none (show args.length ≤ i by omega)]
  have g2 : ∀ i, isOw (args.getD i .un) = true → i < vs.length := fun i h => by rw [hl]; exact lt_of_getD h
  have g3 : ∀ i, i < vs.length → (start N vs)[i]? = (vs.map some)[i]? := fun i h => by
    unfold L2.start
    rw [List.getElem?_append_left (by simpa using h)]
  refine ⟨S.ex, S.out, S.new, S.ge, S.thr, by simp [fill, L2.start, hl], fun i => ?_, fun i j a h1 h2 e1 e2 => ?_, S.tb⟩
  · rw [g1]
    by_cases h : i < vs.length
    · rw [g3 i h]; exact S.sl i
    · have : args.getD i .un = .un := by simp [List.getD, List.getElem?_eq_none (show args.length ≤ i by omega)]
      rw [this]; trivial
  · rw [g1] at h1 h2
    rw [g3 i (g2 i h1)] at e1
    rw [g3 j (g2 j h2)] at e2
    exact S.own i j a h1 h2 e1 e2
/-- what a body must do, from its contract -/
theorem body_of {K : PySem.W.Frag} {n : Nat} {dc : DC} {s : DS} {N : List Str} {W : WX} {vs : List V} {H : Hp} {Q : VK} {E : XK} (hsp : spD K n dc vs H Q E) (ms : MonoS s) (hW : ∀ cls d σ H, E cls d H → W cls d σ H)
    (h : ∀ args XX R, args.length = n → dc args XX R → s (fill N.length args) (postF args XX R)) : liftS K W s { nx := fun _ H' => Q .non H', rt := Q } (L2.start N vs) H := by
  obtain ⟨hn, B, F, args, S, hd⟩ := hsp
  have hl : args.length = n := by rw [← hn]; simpa using S.len.symm
  refine liftS.of ms (fill_start S) (h args _ _ hl hd) ⟨fun ρ' q F' σ' H' e S' => ?_, fun r ρ' q v F' σ' H' e S' hr => ?_, fun ρ' q => q.elim, fun ρ' q => q.elim, fun x ρ' q F' σ' H' dd v e S' h1 h2 => hW _ _ _ _ (q F' H' dd v e (S.exit S') h1 h2)⟩
  · exact q .non F' H' e (S.exit S') .none
  · refine q v F' H' e (S.exit S') ?_
    cases hr with
    | d h => exact h
    | nw h =>
      obtain ⟨a, e1, o, h0, _⟩ := h.ex
      exact ⟨a, e1, o, h0⟩
end
end DL
set_option Elab.async false
set_option linter.all false
set_option maxRecDepth 100000
set_option maxHeartbeats 1000000
/-! DL8: what is walked: lists, tuples, ranges, enumerate, zip. -/
namespace DL
open PySem L2 Evl
variable [Tbs]

/-! ### enumerate(tuple) -/
set_option maxHeartbeats 1000000 in
theorem enum_newB {v : Value} {o : Obj} {H : Heap → Prop} (B : Begins v o H) :
    Meets (Builtin.«enumerate.__new__» ⟨[.type "enumerate", v], []⟩) (fun _ R s => H s.heap ∧
      R (.ok (.ret (.ref (s.heap.push o).objs.size))) { s with heap := (s.heap.push o).push { cls := .type "enumerate", data := .fields #[.none, .bool false, .ref s.heap.objs.size, rawInt 0, .none, .none] } }) :=
  .of_wp fun prog w A R s h => by
    obtain ⟨hp, g, d, tk, os⟩ := s; obtain ⟨h1, h⟩ := h
    have hsub := sub_enumerate
    have q1 : ∀ {A' : Around} {E : Value → Shared → Prop} {Q : Value → Shared → Prop}, Q (.ref hp.objs.size) ⟨hp.push o, g, d, tk, os⟩ → wpAny (model prog w) A' (pyIter v) Q E ⟨hp, g, d, tk, os⟩ :=
      fun q => B.iter prog w _ _ ⟨hp, g, d, tk, os⟩ _ h1 q
    wp_walk using q1
    refine wpAny_stack_any fun st => wpAny_pure ?_
    split
    · rename_i c _ _ _ _ _
      cases (c == Value.type "enumerate")
      · wp_walk using q1
        exact ⟨_, rfl, h⟩
      · wp_walk using q1
        exact ⟨_, rfl, h⟩
    · wp_walk using q1
      exact ⟨_, rfl, h⟩
theorem enum_begins1 {prog : Program} {w : World} {A : Around} {E : Value → Shared → Prop} {s : Shared} {v : Value} {o : Obj} {H : Heap → Prop} {Q : Value → Shared → Prop} (B : Begins v o H) (h1 : H s.heap)
    (h : ∀ h', IsEnum h' (s.heap.objs.size + 1) s.heap.objs.size 0 .none → h'.get? s.heap.objs.size = some o → h'.objs.size = s.heap.objs.size + 2 →
      (∀ b o, s.heap.get? b = some o → h'.get? b = some o) → Q (.ref (s.heap.objs.size + 1)) { s with heap := h' }) :
    wpAny (model prog w) A (call (.type "enumerate") [v]) Q E s := by
  refine callType_new F.called_enumerate (by decide) (F.typeCall_enumerate_1 _) (F.newCall_enumerate_1 _) (fun obj => F.args_object_init_2 obj _) F.entry_enumerate_new
    (enum_newB B) ⟨h1, ?_⟩
  have hz : (s.heap.push o).objs.size = s.heap.objs.size + 1 := Heap.size_push ..
  show _ ∧ _
  rw [hz]
  have he : IsEnum ((s.heap.push o).push { cls := .type "enumerate", data := .fields #[.none, .bool false, .ref s.heap.objs.size, rawInt 0, .none, .none] }) (s.heap.objs.size + 1) s.heap.objs.size 0 .none := by
    have := Heap.get?_push_size (s.heap.push o) (o := { cls := .type "enumerate", data := .fields #[.none, .bool false, .ref s.heap.objs.size, rawInt 0, .none, .none] }) rfl
    rw [hz] at this; exact this
  refine ⟨⟨_, he, rfl⟩, h _ he (Heap.get?_push_of_some _ (Heap.get?_push_size _ B.free)) (by rw [Heap.size_push, hz]) fun b o x => Heap.get?_push_of_some _ (Heap.get?_push_of_some _ x)⟩
def IteT (K : PySem.W.Frag) (a : Addr) : It :=
  ⟨fun i H => ∃ (xs : List V) (x : V), SqT K H a xs ∧ xs[i]? = some x, fun i H v H' => ∃ T x, v = .ref T ∧ H T = none ∧ H' = upd H T (.tup [.int (i : Nat), x]) ∧ ∀ xs, SqT K H a xs → xs[i]? = some x, fun i H => ∃ xs : List V, SqT K H a xs ∧ xs.length = i⟩
theorem turn_enumT {P : Program} {w : World} {K : PySem.W.Frag} {elts : List Expr} {kk : Nat} {tpos : Pos} (a e it : Addr) (hai : a ≠ it) (hae : a ≠ e) :
    Turn P w K (.Tuple elts kk tpos) (IteT K a) [e, it] e (fun i h => (∃ old, IsEnum h e it ((i : Nat) : Int) old) ∧ h.IsTupleIter it a i ∧ e ≠ it) where
  mem := by simp
  obj := fun i h st b hb => by
    obtain ⟨⟨old, he⟩, ⟨o, ho, hc, hd⟩, _⟩ := st
    have e' : b = e ∨ b = it := by simpa using hb
    rcases e' with z | z
    · rw [z]; exact ⟨_, he, fun v q => nomatch q⟩
    · rw [z]; exact ⟨o, ho, fun v q => by rw [hd] at q; cases q⟩
  keep := fun i h h' st k => let ⟨⟨old, he⟩, hi, hne⟩ := st; ⟨⟨old, k e (by simp) _ he⟩, hi.at fun o q => k it (by simp) o q, hne⟩
  item := by
    intro X hP hw hK hc i pins s σ H E I hf st hg
    subst hP hw hK
    obtain ⟨⟨old, he⟩, hit, hne⟩ := st
    obtain ⟨xs, x, hq, hx⟩ := hg
    obtain ⟨its, rv, p, hz⟩ := I.tuple hq
    obtain ⟨u, hu, ru⟩ := rv.get hx
    have hel : e < s.heap.objs.size := Heap.lt_size he
    have hil : it < s.heap.objs.size := by obtain ⟨_, q, _⟩ := hit; exact Heap.lt_size q
    have hlt : i < its.toArray.size := by simpa using (List.getElem?_eq_some_iff.mp hu).1
    refine wpAny_pyNext_enum_itemC (n := its.toArray.size) (Draws.tuple (prog := X.prog) (w := X.w) (A := X.A.in1) (show X.A.in1.handled = none from I.ok.hd hc) it a hai its.toArray) he ⟨hit, show s.heap.IsTuple a its.toArray from p⟩ hlt hne (by simp [hne, Ne.symm hae]) fun y h' tk hy ho hit' hT hsz hk => ?_
    have : y = u := by
      have h2 : its[i]? = some y := by simpa using hy
      rw [hu] at h2; exact (Option.some.inj h2).symm
    subst this
    refine ⟨_, rfl, wpAny_letOwnedTupleGo_enum (s := { s with heap := h', toks := tk + 1 }) ho fun h'' he' sb => ?_⟩
    have hT2 : h''.get? s.heap.objs.size = some { cls := .type "tuple", data := .seq #[.int i tk, y] } := (sb.2 _ (Nat.ne_of_gt hel)).trans hT
    have new : ObjOk X.prog X.w (upd H s.heap.objs.size (.tup [.int (i : Nat), x])) h'' s.heap.objs.size (.tup [.int (i : Nat), x]) :=
      ⟨by show 2 ≤ sizeLine; decide, [.int i tk, y], .cons ⟨_, rfl⟩ (.cons ru .nil), ⟨_, hT2, rfl, _, rfl⟩⟩
    have I1 : Inv X pins σ (upd H s.heap.objs.size (.tup [.int (i : Nat), x])) { s with heap := h'', toks := tk + 1 } :=
      I.turnedNew (ch := [e, it]) (fun b ob hb q => (sb.2 b (fun z => hb (by simp [z]))).trans (hk b ob (fun z => hb (by simp [z])) (fun z => hb (by simp [z])) q)) hf (Nat.le_refl _) new
    refine ⟨.ref s.heap.objs.size, _, I1, rfl, ⟨_, x, rfl, I.hok.fresh (Nat.le_refl _), rfl, fun ys hy => by rw [I.tuple_inj hy hq]; exact hx⟩, ⟨⟨y, ?_⟩, hit'.1.at fun o q => (sb.2 it (Ne.symm hne)).trans q, hne⟩, fun b hb => ?_⟩
    · have e1 : ((i + 1 : Nat) : Int) = (i : Int) + 1 := by omega
      rw [e1]; exact he'
    · have hb' : b < s.heap.objs.size := by
        have e' : b = e ∨ b = it := by simpa using hb
        rcases e' with z | z
        · rw [z]; exact hel
        · rw [z]; exact hil
      rw [upd_ne (Nat.ne_of_lt hb')]
      exact (hf b hb).1
  done := by
    intro X hP hw hK hc i pins s σ H E I hf st hg
    subst hP hw hK
    obtain ⟨⟨old, he⟩, hit, hne⟩ := st
    obtain ⟨xs, hq, hx⟩ := hg
    obtain ⟨its, rv, p, hz⟩ := I.tuple hq
    obtain ⟨f0, f1, f2, f3, f4, f5⟩ := hf it (by simp)
    have hl := rv.length
    have hi : its.toArray.size = i := by simp; omega
    refine wpAny_pyNext_enum_endD (Draws.tuple (prog := X.prog) (w := X.w) (A := X.A.in1) (show X.A.in1.handled = none from I.ok.hd hc) it a hai its.toArray) he ⟨by rw [hi]; exact hit, show s.heap.IsTuple a its.toArray from p⟩ fun h' eb => ⟨rfl, I.turned (t' := s.toks) (fun b o hb q => eb b o hb q) f0 f1 f3 f4 f5⟩
  self := fun A i s Q E st h => let ⟨⟨_, he⟩, _⟩ := st; wpAny_pyIter_enum he h
def iEnumT (K : PySem.W.Frag) (ta : TA) : TI := fun σ H R => ta σ H fun vs H1 => ∃ a xs, vs = [.ref a] ∧ SqT K H1 a xs ∧ R (IteT K a) H1
theorem pi_enumT {X : Cx} {e : Expr} {ta : TA} {p pos tpos : Pos} {elts : List Expr} {kk : Nat} (hg : Gl X "enumerate") (hm : X.mg "enumerate" = none) (ha : PA X [e] ta) (hs : starEach [e] X.env = [(false, eval e X.env)] := by rfl) :
    PI X (.Tuple elts kk tpos) (.Call (.Name "enumerate" p) [e] [] pos) (iEnumT X.K ta) := by
  refine ⟨fun pins s σ H R I h => ?_⟩
  refine PyProof.Rows.Call_ (ld_blt I hg hm PyProof.Rows.boot_enumerate (PyProof.Rows.callWith_type1 (thn (ha.run pos pins s σ H _ I h) fun us s1 ⟨vs, H1, I1, r1, q1⟩ => ?_) hs rfl))
  obtain ⟨a, xs, ex, hq, q⟩ := q1
  subst ex
  cases r1 with
  | cons r rr =>
    cases rr
    cases r
    obtain ⟨its, rv, p', hz⟩ := I1.tuple hq
    obtain ⟨oa, hoa, _⟩ := id p'
    have hla : a < s1.heap.objs.size := Heap.lt_size hoa
    refine enum_begins1 (begins_tuple a its.toArray) (show s1.heap.IsTuple a its.toArray from p') fun h' he hit hsz hk => wpAny_pyIter_enum he ?_
    have I2 : Inv X pins σ H1 { s1 with heap := h' } := I1.kept (t' := s1.toks) hk
    refine ⟨s1.heap.objs.size + 1, [s1.heap.objs.size + 1, s1.heap.objs.size], _, _, H1, rfl, I2, turn_enumT a (s1.heap.objs.size + 1) s1.heap.objs.size (Nat.ne_of_lt hla) (Nat.ne_of_lt (Nat.lt_succ_of_lt hla)), ⟨⟨.none, he⟩, ⟨_, hit, rfl, rfl⟩, Nat.succ_ne_self _⟩, fun b hb => ?_, q⟩
    have e' : b = s1.heap.objs.size + 1 ∨ b = s1.heap.objs.size := by simpa using hb
    have hle : s1.heap.objs.size ≤ b := by
      rcases e' with z | z
      · rw [z]; exact Nat.le_add_right _ _
      · rw [z]; exact Nat.le_refl _
    exact I1.fpOk hle (I1.hok.fresh hle)
/-- either -/
theorem PI.or {X : Cx} {tg e : Expr} {w1 w2 : TI} (h1 : PI X tg e w1) (h2 : PI X tg e w2) : PI X tg e (fun σ H R => w1 σ H R ∨ w2 σ H R) := ⟨fun pins s σ H R I h => h.elim (h1.run pins s σ H R I) (h2.run pins s σ H R I)⟩
end DL
set_option Elab.async false
set_option linter.all false
set_option maxRecDepth 100000
set_option maxHeartbeats 1000000
/-! DL9: iterables as rules; comprehensions. -/
namespace DL
open PySem L2 Evl
variable [Tbs]
section
variable {X : Cx} {W : WX} {a b c e tg : Expr} {da db : DE} {das : DAs} {es : List Expr} {pos p : Pos} {K : PySem.W.Frag} {G0 F0 : Hp}
theorem atLt {α : Type} {xs : List α} {i : Nat} (h : i < xs.length) : xs[i]? = some xs[i] := by simp [h]
theorem yld_list {a : Addr} {vs : List V} {ds : List D} (h : SqL K F0 a vs) (r : Reps K F0 vs ds) (inj : ∀ {H ys}, Ex F0 H → SqL K H a ys → SqL K H a vs → True) : Yld K G0 F0 (Itl K a) ds := fun B F ρ σ H _ e S => by
  have hH : SqL K H a vs := xl_l S.ex (ex_l e h)
  refine ⟨fun i hi => ⟨vs, vs[i]'(by rw [r.length]; exact hi), hH, atLt _⟩, ⟨vs, hH, by rw [r.length]; exact Nat.le_refl _⟩, fun i d x H' hd y => ?_⟩
  obtain ⟨rfl, y⟩ := y
  exact ⟨F, Ex.refl _, S, (r.mono e).get i x d (y vs hH) hd⟩
theorem yld_tup {a : Addr} {vs : List V} {ds : List D} (h : SqT K F0 a vs) (r : Reps K F0 vs ds) : Yld K G0 F0 (Itt K a) ds := fun B F ρ σ H _ e S => by
  have hH : SqT K H a vs := xl_t S.ex (ex_t e h)
  refine ⟨fun i hi => ⟨vs, vs[i]'(by rw [r.length]; exact hi), hH, atLt _⟩, ⟨vs, hH, by rw [r.length]; exact Nat.le_refl _⟩, fun i d x H' hd y => ?_⟩
  obtain ⟨rfl, y⟩ := y
  exact ⟨F, Ex.refl _, S, (r.mono e).get i x d (y vs hH) hd⟩
/-- what a value is walked as -/
def seqD : D → (List D → Prop) → Prop
  | .list xs, k => k xs
  | .tuple xs, k => k xs
  | .rol xs, k => k xs
  | _, _ => False
theorem seqD.mono {d : D} {k k' : List D → Prop} (h : ∀ xs, k xs → k' xs) (q : seqD d k) : seqD d k' := by
  cases d <;> first | exact h _ q | exact q.elim
def iSeq (da : DE) : DI := fun ρ X K => da ρ X fun d ρ1 => seqD d fun xs => K xs ρ1
theorem mono_iSeq (m : MonoE da) : MonoI (iSeq da) := ⟨fun hx hk h => m.go hx (fun d ρ h => seqD.mono (fun xs h => hk _ _ h) h) h⟩
/-- a list or a tuple that is walked -/
def iSq (K : PySem.W.Frag) (tl : TE) : TI := fun σ H R => tl σ H fun x H1 => ∃ a, x = .ref a ∧ ((∃ xs, SqL K H1 a xs ∧ R (Itl K a) H1) ∨ ∃ xs, SqT K H1 a xs ∧ R (Itt K a) H1)
theorem pi_sq {l : Expr} {tl : TE} (hl : PE X l tl) : PI X tg l (iSq X.K tl) := by
  refine ⟨fun pins s σ H R I h => ?_⟩
  refine thn (hl.run pins s σ H _ I h) fun v s1 ⟨x, H1, I1, r1, q1⟩ => ?_
  obtain ⟨a, e, q⟩ := q1
  subst e
  cases r1
  rcases q with ⟨xs, hq, q⟩ | ⟨xs, hq, q⟩
  · obtain ⟨its, rv, p, hz⟩ := I1.list hq
    refine wpAny_pyIter_list p.isList ?_
    refine ⟨s1.heap.objs.size, [s1.heap.objs.size], _, _, H1, rfl, I1.kept (t' := s1.toks) fun b o e => Heap.get?_push_of_some _ e, turn_list a _, ⟨_, Heap.get?_push_size _ rfl, rfl, rfl⟩, fun b hb => ?_, q⟩
    have e : b = s1.heap.objs.size := by simpa using hb
    subst e
    exact I1.fpOk (Nat.le_refl _) (I1.hok.fresh (Nat.le_refl _))
  · obtain ⟨its, rv, p, hz⟩ := I1.tuple hq
    refine wpAny_pyIter_tuple (show s1.heap.IsTuple a its.toArray from p) ?_
    refine ⟨s1.heap.objs.size, [s1.heap.objs.size], _, _, H1, rfl, I1.kept (t' := s1.toks) fun b o e => Heap.get?_push_of_some _ e, turn_tuple a _, ⟨_, Heap.get?_push_size _ rfl, rfl, rfl⟩, fun b hb => ?_, q⟩
    have e : b = s1.heap.objs.size := by simpa using hb
    subst e
    exact I1.fpOk (Nat.le_refl _) (I1.hok.fresh (Nat.le_refl _))
theorem PI.imp {w1 w2 : TI} (h : PI X tg e w1) (hi : ∀ σ H R, w2 σ H R → w1 σ H R) : PI X tg e w2 := ⟨fun pins s σ H R I q => h.run pins s σ H R I (hi σ H R q)⟩
theorem pdi_seq (h : PD X W a da) : PDI X W tg a (iSeq da) :=
  ⟨mono_iSeq h.mono, PI.imp (pi_sq h.run) fun σ H R ⟨B, F, ρ, S, q⟩ => liftE.of h.mono (Ex.refl _) S q fun d ρ1 q v F1 H1 e1 S1 r1 => by
    cases d <;> try exact q.elim
    · obtain ⟨p, vs, rfl, h1, r⟩ := r1.list_inv
      exact ⟨p, rfl, .inl ⟨vs, .inl (.inl (S1.ex.on h1)), q _ _ F1 H1 (.refl _) e1 S1 (yld_list (.inl (.inl h1)) r fun _ _ _ => trivial)⟩⟩
    · obtain ⟨p, vs, rfl, h1, r⟩ := r1.tuple_inv
      exact ⟨p, rfl, .inr ⟨vs, xl_t S1.ex h1, q _ _ F1 H1 (.refl _) e1 S1 (yld_tup h1 r)⟩⟩
    · obtain ⟨p, vs, rfl, h1, r⟩ := r1.rol_inv
      exact ⟨p, rfl, .inl ⟨vs, xl_l S1.ex h1, q _ _ F1 H1 (.refl _) e1 S1 (yld_list h1 r fun _ _ _ => trivial)⟩⟩⟩
/-- ranges -/
def rangeD (lo c : Int) (n : Nat) : List D := (List.range n).map fun (i : Nat) => .int (lo + i * c)
theorem rangeD_at {lo c : Int} {n i : Nat} {d : D} (h : (rangeD lo c n)[i]? = some d) : d = .int (lo + i * c) := by
  unfold rangeD at h
  rw [List.getElem?_map] at h
  cases q : (List.range n)[i]? with
  | none => rw [q] at h; cases h
  | some j =>
    have := (List.getElem?_eq_some_iff.mp q).2
    rw [q] at h
    simp at this h
    subst this; exact h.symm
theorem rangeD_length {lo c : Int} {n : Nat} : (rangeD lo c n).length = n := by simp [rangeD]
theorem yld_range {lo : Int} {n : Nat} : Yld K G0 F0 (Itr lo n) (rangeD lo 1 n) := fun B F ρ σ H _ e S => by
  refine ⟨fun i hi => by rw [rangeD_length] at hi; exact hi, by rw [rangeD_length]; exact Nat.le_refl _, fun i d x H' hd y => ?_⟩
  obtain ⟨rfl, rfl⟩ := y
  rw [rangeD_at hd, Int.mul_one]
  exact ⟨F, Ex.refl _, S, .int _⟩
theorem yld_rangeC {lo c : Int} {n : Nat} : Yld K G0 F0 (Itc lo c n) (rangeD lo c n) := fun B F ρ σ H _ e S => by
  refine ⟨fun i hi => by rw [rangeD_length] at hi; exact hi, by rw [rangeD_length]; exact Nat.le_refl _, fun i d x H' hd y => ?_⟩
  obtain ⟨rfl, rfl⟩ := y
  rw [rangeD_at hd]
  exact ⟨F, Ex.refl _, S, .int _⟩
def inR (i : Int) : Prop := -(2 ^ 62) ≤ i ∧ i < 2 ^ 62
def iR1 (das : DAs) : DI := fun ρ X K => das ρ X fun as ρ1 => allD as fun ds => match ds with
  | [.int j] => inR j ∧ K (rangeD 0 1 j.toNat) ρ1
  | _ => False
def iR2 (das : DAs) : DI := fun ρ X K => das ρ X fun as ρ1 => allD as fun ds => match ds with
  | [.int i, .int j] => inR i ∧ inR j ∧ K (rangeD i 1 (j - i).toNat) ρ1
  | _ => False
/-- down by one -/
def iR3 (das : DAs) : DI := fun ρ X K => das ρ X fun as ρ1 => allD as fun ds => match ds with
  | [.int i, .int j, .int c] => inR i ∧ inR j ∧ c = -1 ∧ K (rangeD i (-1) (i - j).toNat) ρ1
  | _ => False
theorem pdi_r1 (hg : Gl X "range") (hm : X.mg "range" = none) (h : PDA X W [a] das) (hs : starEach [a] X.env = [(false, eval a X.env)] := by rfl) : PDI X W tg (.Call (.Name "range" p) [a] [] pos) (iR1 das) :=
  ⟨⟨fun hx hk q => h.mono.go hx (fun as ρ q => allD.mono (fun ds q => by
      split at q
      · exact ⟨q.1, hk _ _ q.2⟩
      · exact q.elim) q) q⟩, PI.imp (pi_range1 hg hm h.run hs) fun σ H R ⟨B, F, ρ, S, q⟩ => liftA.of h.mono (Ex.refl _) S q fun as ρ1 q vs F1 H1 e1 S1 r1 => by
    obtain ⟨ds, r, q⟩ := allD.reps r1 q
    split at q
    · cases r with
      | cons r t =>
        cases t
        cases r.int_inv
        exact ⟨_, rfl, q.1.1, q.1.2, q.2 _ _ F1 H1 (.refl _) e1 S1 yld_range⟩
    · exact q.elim⟩
theorem pdi_r2 (hg : Gl X "range") (hm : X.mg "range" = none) (h : PDA X W [a, b] das) (hs : starEach [a, b] X.env = [(false, eval a X.env), (false, eval b X.env)] := by rfl) (hs2 : starEach [b] X.env = [(false, eval b X.env)] := by rfl) : PDI X W tg (.Call (.Name "range" p) [a, b] [] pos) (iR2 das) :=
  ⟨⟨fun hx hk q => h.mono.go hx (fun as ρ q => allD.mono (fun ds q => by
      split at q
      · exact ⟨q.1, q.2.1, hk _ _ q.2.2⟩
      · exact q.elim) q) q⟩, PI.imp (pi_range2 hg hm h.run hs hs2) fun σ H R ⟨B, F, ρ, S, q⟩ => liftA.of h.mono (Ex.refl _) S q fun as ρ1 q vs F1 H1 e1 S1 r1 => by
    obtain ⟨ds, r, q⟩ := allD.reps r1 q
    split at q
    · cases r with
      | cons r t =>
        cases t with
        | cons r' t =>
          cases t
          cases r.int_inv
          cases r'.int_inv
          exact ⟨_, _, rfl, ⟨q.1.1, q.1.2, q.2.1.1, q.2.1.2⟩, q.2.2 _ _ F1 H1 (.refl _) e1 S1 yld_range⟩
    · exact q.elim⟩
theorem pdi_r3 (hg : Gl X "range") (hm : X.mg "range" = none) (h : PDA X W [a, b, c] das) (hs : starEach [a, b, c] X.env = (false, eval a X.env) :: starEach [b, c] X.env := by rfl) (hpl : (backTo pos (starEach [b, c] X.env)).any (·.1) = false := by rfl)
    : PDI X W tg (.Call (.Name "range" p) [a, b, c] [] pos) (iR3 das) := by
  refine ⟨⟨fun hx hk q => h.mono.go hx (fun as ρ q => allD.mono (fun ds q => by
      split at q
      · exact ⟨q.1, q.2.1, q.2.2.1, hk _ _ q.2.2.2⟩
      · exact q.elim) q) q⟩, PI.imp (pi_range3 hg hm h.run hs hpl) fun σ H R ⟨B, F, ρ, S, q⟩ => liftA.of h.mono (Ex.refl _) S q fun as ρ1 q vs F1 H1 e1 S1 r1 => ?_⟩
  obtain ⟨ds, r, q⟩ := allD.reps r1 q
  split at q
  · cases r with
    | cons r t =>
      cases t with
      | cons r' t =>
        cases t with
        | cons r'' t =>
          cases t
          cases r.int_inv
          cases r'.int_inv
          cases r''.int_inv
          obtain ⟨q1, q2, rfl, q3⟩ := q
          exact ⟨_, _, _, _, rfl, RgC.neg q1.1 q1.2 q2.1 q2.2, q3 _ _ F1 H1 (.refl _) e1 S1 yld_rangeC⟩
  · exact q.elim
/-- enumerate of a list, a tuple -/
def enumD (k : Nat) : List D → List D
  | [] => []
  | x :: xs => .tuple [.int k, x] :: enumD (k + 1) xs
theorem enumD_length : ∀ {xs : List D} {k : Nat}, (enumD k xs).length = xs.length
  | [], _ => rfl
  | x :: xs, k => by simp [enumD, enumD_length (xs := xs)]
theorem enumD_at : ∀ {xs : List D} {k i : Nat} {d : D}, (enumD k xs)[i]? = some d → ∃ x, xs[i]? = some x ∧ d = .tuple [.int ((k + i : Nat) : Int), x]
  | [], _, i, d, h => by simp [enumD] at h
  | x :: xs, k, 0, d, h => by simp [enumD] at h; exact ⟨x, rfl, h.symm⟩
  | x :: xs, k, i + 1, d, h => by
    obtain ⟨y, h1, h2⟩ := enumD_at (xs := xs) (k := k + 1) (i := i) (by simpa [enumD] using h)
    exact ⟨y, by simpa using h1, by rw [h2, show k + 1 + i = k + (i + 1) by omega]⟩
def iEn (das : DAs) : DI := fun ρ X K => das ρ X fun as ρ1 => allD as fun ds => match ds with
  | [d] => seqD d fun xs => K (enumD 0 xs) ρ1
  | _ => False
theorem newPair {B : Base} {F : Hp} {ρ : Env} {σ : L2.St} {H : Hp} {T : Addr} {x y : V} {d e : D} (S : St K B F ρ σ H) (hT : H T = none) (rx : Rep K F x d) (ry : Rep K F y e) :
    ∃ F', Ex F F' ∧ St K B F' ρ σ (upd H T (.tup [x, y])) ∧ Rep K F' (.ref T) (.tuple [d, e]) := by
  obtain ⟨e1, S1⟩ := S.alloc (o := .tup [x, y]) hT
  exact ⟨_, e1, S1, .tup upd_same (.cons (rx.mono e1) (.cons (ry.mono e1) .nil))⟩
theorem yld_enum {a : Addr} {vs : List V} {ds : List D} (h : SqL K F0 a vs) (r : Reps K F0 vs ds) : Yld K G0 F0 (Ite K a) (enumD 0 ds) := fun B F ρ σ H _ e S => by
  have hH : SqL K H a vs := xl_l S.ex (ex_l e h)
  rw [enumD_length]
  refine ⟨fun i hi => ⟨vs, vs[i]'(by rw [r.length]; exact hi), hH, atLt _⟩, ⟨vs, hH, by rw [r.length]; exact Nat.le_refl _⟩, fun i d x H' hd y => ?_⟩
  obtain ⟨T, w, rfl, hT, rfl, y⟩ := y
  obtain ⟨z, hz, rfl⟩ := enumD_at hd
  rw [Nat.zero_add]
  exact newPair S hT (.int _) ((r.mono e).get i w z (y vs hH) hz)
theorem yld_enumT {a : Addr} {vs : List V} {ds : List D} (h : SqT K F0 a vs) (r : Reps K F0 vs ds) : Yld K G0 F0 (IteT K a) (enumD 0 ds) := fun B F ρ σ H _ e S => by
  have hH : SqT K H a vs := xl_t S.ex (ex_t e h)
  rw [enumD_length]
  refine ⟨fun i hi => ⟨vs, vs[i]'(by rw [r.length]; exact hi), hH, atLt _⟩, ⟨vs, hH, r.length⟩, fun i d x H' hd y => ?_⟩
  obtain ⟨T, w, rfl, hT, rfl, y⟩ := y
  obtain ⟨z, hz, rfl⟩ := enumD_at hd
  rw [Nat.zero_add]
  exact newPair S hT (.int _) ((r.mono e).get i w z (y vs hH) hz)
/-- enumerate of either -/
def iEnumA (K : PySem.W.Frag) (ta : TA) : TI := fun σ H R => ta σ H fun vs H1 => ∃ a, vs = [.ref a] ∧ ((∃ xs, SqL K H1 a xs ∧ R (Ite K a) H1) ∨ ∃ xs, SqT K H1 a xs ∧ R (IteT K a) H1)
theorem pi_enumA {X : Cx} {e : Expr} {ta : TA} {p pos tpos : Pos} {elts : List Expr} {kk : Nat} (hg : Gl X "enumerate") (hm : X.mg "enumerate" = none) (ha : PA X [e] ta) (hs : starEach [e] X.env = [(false, eval e X.env)] := by rfl) :
    PI X (.Tuple elts kk tpos) (.Call (.Name "enumerate" p) [e] [] pos) (iEnumA X.K ta) := by
  refine ⟨fun pins s σ H R I h => ?_⟩
  refine PyProof.Rows.Call_ (ld_blt I hg hm PyProof.Rows.boot_enumerate (PyProof.Rows.callWith_type1 (thn (ha.run pos pins s σ H _ I h) fun us s1 ⟨vs, H1, I1, r1, q1⟩ => ?_) hs rfl))
  obtain ⟨a, ex, q⟩ := q1
  subst ex
  cases r1 with
  | cons r rr =>
    cases rr
    cases r
    rcases q with ⟨xs, hq, q⟩ | ⟨xs, hq, q⟩
    · obtain ⟨its, rv, p', hz⟩ := I1.list hq
      refine call_enumerate_list p'.isList fun h' he hit hsz hk => wpAny_pyIter_enum he ?_
      have I2 : Inv X pins σ H1 { s1 with heap := h' } := I1.kept (t' := s1.toks) hk
      refine ⟨s1.heap.objs.size + 1, [s1.heap.objs.size + 1, s1.heap.objs.size], _, _, H1, rfl, I2, turn_enum a (s1.heap.objs.size + 1) s1.heap.objs.size, ⟨⟨.none, he⟩, hit, Nat.succ_ne_self _⟩, fun b hb => ?_, q⟩
      have e' : b = s1.heap.objs.size + 1 ∨ b = s1.heap.objs.size := by simpa using hb
      have hle : s1.heap.objs.size ≤ b := by
        rcases e' with z | z
        · rw [z]; exact Nat.le_add_right _ _
        · rw [z]; exact Nat.le_refl _
      exact I1.fpOk hle (I1.hok.fresh hle)
    · obtain ⟨its, rv, p', hz⟩ := I1.tuple hq
      obtain ⟨oa, hoa, _⟩ := id p'
      have hla : a < s1.heap.objs.size := Heap.lt_size hoa
      refine enum_begins1 (begins_tuple a its.toArray) (show s1.heap.IsTuple a its.toArray from p') fun h' he hit hsz hk => wpAny_pyIter_enum he ?_
      have I2 : Inv X pins σ H1 { s1 with heap := h' } := I1.kept (t' := s1.toks) hk
      refine ⟨s1.heap.objs.size + 1, [s1.heap.objs.size + 1, s1.heap.objs.size], _, _, H1, rfl, I2, turn_enumT a (s1.heap.objs.size + 1) s1.heap.objs.size (Nat.ne_of_lt hla) (Nat.ne_of_lt (Nat.lt_succ_of_lt hla)), ⟨⟨.none, he⟩, ⟨_, hit, rfl, rfl⟩, Nat.succ_ne_self _⟩, fun b hb => ?_, q⟩
      have e' : b = s1.heap.objs.size + 1 ∨ b = s1.heap.objs.size := by simpa using hb
      have hle : s1.heap.objs.size ≤ b := by
        rcases e' with z | z
        · rw [z]; exact Nat.le_add_right _ _
        · rw [z]; exact Nat.le_refl _
      exact I1.fpOk hle (I1.hok.fresh hle)
theorem pdi_enum {elts : List Expr} {kk : Nat} {tpos : Pos} (hg : Gl X "enumerate") (hm : X.mg "enumerate" = none) (h : PDA X W [a] das) (hs : starEach [a] X.env = [(false, eval a X.env)] := by rfl) : PDI X W (.Tuple elts kk tpos) (.Call (.Name "enumerate" p) [a] [] pos) (iEn das) :=
  ⟨⟨fun hx hk q => h.mono.go hx (fun as ρ q => allD.mono (fun ds q => by
      split at q
      · exact seqD.mono (fun xs h => hk _ _ h) q
      · exact q.elim) q) q⟩, PI.imp (pi_enumA hg hm h.run hs) fun σ H R ⟨B, F, ρ, S, q⟩ => liftA.of h.mono (Ex.refl _) S q fun as ρ1 q vs F1 H1 e1 S1 r1 => by
    obtain ⟨ds, r, q⟩ := allD.reps r1 q
    split at q
    · rename_i d
      cases r with
      | cons r t =>
        cases t
        cases d <;> try exact q.elim
        · obtain ⟨p, vs, rfl, h1, r⟩ := r.list_inv
          exact ⟨p, rfl, .inl ⟨vs, .inl (.inl (S1.ex.on h1)), q _ _ F1 H1 (.refl _) e1 S1 (yld_enum (.inl (.inl h1)) r)⟩⟩
        · obtain ⟨p, vs, rfl, h1, r⟩ := r.tuple_inv
          exact ⟨p, rfl, .inr ⟨vs, xl_t S1.ex h1, q _ _ F1 H1 (.refl _) e1 S1 (yld_enumT h1 r)⟩⟩
        · obtain ⟨p, vs, rfl, h1, r⟩ := r.rol_inv
          exact ⟨p, rfl, .inl ⟨vs, xl_l S1.ex h1, q _ _ F1 H1 (.refl _) e1 S1 (yld_enum h1 r)⟩⟩
    · exact q.elim⟩
/-- zip of two lists, of two tuples -/
def zipD : List D → List D → List D := List.zipWith fun x y => .tuple [x, y]
theorem zipD_at {xs ys : List D} {i : Nat} {d : D} (h : (zipD xs ys)[i]? = some d) : ∃ x y, xs[i]? = some x ∧ ys[i]? = some y ∧ d = .tuple [x, y] := by
  unfold zipD at h
  rw [List.getElem?_zipWith] at h
  cases h1 : xs[i]? with
  | none => rw [h1] at h; cases h
  | some x =>
    cases h2 : ys[i]? with
    | none => rw [h1, h2] at h; cases h
    | some y => rw [h1, h2] at h; exact ⟨x, y, rfl, rfl, (Option.some.inj h).symm⟩
def iZp (das : DAs) : DI := fun ρ X K => das ρ X fun as ρ1 => allD as fun ds => match ds with
  | [.list xs, .list ys] => K (zipD xs ys) ρ1
  | [.tuple xs, .tuple ys] => K (zipD xs ys) ρ1
  | _ => False
theorem yld_zip {a b : Addr} {vs ws : List V} {ds es : List D} (h : SqL K F0 a vs) (r : Reps K F0 vs ds) (h2 : SqL K F0 b ws) (r2 : Reps K F0 ws es) : Yld K G0 F0 (Itz K a b) (zipD ds es) := fun B F ρ σ H _ e S => by
  have hH : SqL K H a vs := xl_l S.ex (ex_l e h)
  have hH2 : SqL K H b ws := xl_l S.ex (ex_l e h2)
  have hl : (zipD ds es).length = min ds.length es.length := by simp [zipD]
  rw [hl]
  refine ⟨fun i hi => ⟨vs, ws, vs[i]'(by rw [r.length]; omega), ws[i]'(by rw [r2.length]; omega), hH, hH2, atLt _, atLt _⟩, ⟨vs, ws, hH, hH2, by rw [r.length, r2.length]; omega⟩, fun i d x H' hd y => ?_⟩
  obtain ⟨T, u, w, rfl, hT, rfl, y1, y2⟩ := y
  obtain ⟨z, z', hz, hz', rfl⟩ := zipD_at hd
  exact newPair S hT ((r.mono e).get i u z (y1 vs hH) hz) ((r2.mono e).get i w z' (y2 ws hH2) hz')
theorem yld_zipT {a b : Addr} {vs ws : List V} {ds es : List D} (h : SqT K F0 a vs) (r : Reps K F0 vs ds) (h2 : SqT K F0 b ws) (r2 : Reps K F0 ws es) : Yld K G0 F0 (RZ.ItzT K a b) (zipD ds es) := fun B F ρ σ H _ e S => by
  have hH : SqT K H a vs := xl_t S.ex (ex_t e h)
  have hH2 : SqT K H b ws := xl_t S.ex (ex_t e h2)
  have hl : (zipD ds es).length = min ds.length es.length := by simp [zipD]
  rw [hl]
  refine ⟨fun i hi => ⟨vs, ws, vs[i]'(by rw [r.length]; omega), ws[i]'(by rw [r2.length]; omega), hH, hH2, atLt _, atLt _⟩, ⟨vs, ws, hH, hH2, by rw [r.length, r2.length]; omega⟩, fun i d x H' hd y => ?_⟩
  obtain ⟨T, u, w, rfl, hT, rfl, y1, y2⟩ := y
  obtain ⟨z, z', hz, hz', rfl⟩ := zipD_at hd
  exact newPair S hT ((r.mono e).get i u z (y1 vs hH) hz) ((r2.mono e).get i w z' (y2 ws hH2) hz')
theorem pdi_zip {elts : List Expr} {kk : Nat} {tpos : Pos} (hg : Gl X "zip") (hm : X.mg "zip" = none) (h : PDA X W [a, b] das) (hs : starEach [a, b] X.env = (false, eval a X.env) :: starEach [b] X.env := by rfl) (hpl : (backTo pos (starEach [b] X.env)).any (·.1) = false := by rfl) :
    PDI X W (.Tuple elts kk tpos) (.Call (.Name "zip" p) [a, b] [] pos) (iZp das) :=
  ⟨⟨fun hx hk q => h.mono.go hx (fun as ρ q => allD.mono (fun ds q => by
      split at q
      · exact hk _ _ q
      · exact hk _ _ q
      · exact q.elim) q) q⟩, PI.imp (RZ.pi_zipA hg hm h.run hs hpl) fun σ H R ⟨B, F, ρ, S, q⟩ => liftA.of h.mono (Ex.refl _) S q fun as ρ1 q vs F1 H1 e1 S1 r1 => by
    obtain ⟨ds, r, q⟩ := allD.reps r1 q
    split at q
    · cases r with
      | cons r t =>
        cases t with
        | cons r' t =>
          cases t
          obtain ⟨p, vs, rfl, h1, r⟩ := r.list_inv
          obtain ⟨p', vs', rfl, h1', r'⟩ := r'.list_inv
          exact ⟨p, p', vs, vs', rfl, .inl ⟨.inl (.inl (S1.ex.on h1)), .inl (.inl (S1.ex.on h1')), q _ _ F1 H1 (.refl _) e1 S1 (yld_zip (.inl (.inl h1)) r (.inl (.inl h1')) r')⟩⟩
    · cases r with
      | cons r t =>
        cases t with
        | cons r' t =>
          cases t
          obtain ⟨p, vs, rfl, h1, r⟩ := r.tuple_inv
          obtain ⟨p', vs', rfl, h1', r'⟩ := r'.tuple_inv
          exact ⟨p, p', vs, vs', rfl, .inr ⟨xl_t S1.ex h1, xl_t S1.ex h1', q _ _ F1 H1 (.refl _) e1 S1 (yld_zipT h1 r h1' r')⟩⟩
    · exact q.elim⟩
end
end DL
set_option Elab.async false
set_option linter.all false
set_option maxRecDepth 100000
set_option maxHeartbeats 1000000
/-! DL10: comprehensions. -/
namespace DL
open PySem L2 Evl
variable [Tbs]
/-- within a comprehension nothing is raised -/
abbrev W0 : WX := fun _ _ _ _ => False
abbrev X0 : XP := fun _ _ => False
def wipeE : List Nat → Env → Env
  | [], ρ => ρ
  | i :: vs, ρ => (wipeE vs ρ).set i .un
def fzOnly : Sl → Sl
  | .fz d => .fz d
  | _ => .un
def restE : List Nat → Env → Env → Env
  | [], _, ρ2 => ρ2
  | i :: vs, ρ1, ρ2 => (restE vs ρ1 ρ2).set i (fzOnly (gt ρ1 i))
section
variable {K : PySem.W.Frag} {B : Base} {F F' : Hp} {ρ ρ1 : Env} {σ σ2 : L2.St} {H H' : Hp}
theorem wipeE_length : ∀ {vs : List Nat}, (wipeE vs ρ).length = ρ.length
  | [] => rfl
  | i :: vs => by simp [wipeE, wipeE_length (vs := vs)]
theorem restE_length {ρ2 : Env} : ∀ {vs : List Nat}, (restE vs ρ1 ρ2).length = ρ2.length
  | [] => rfl
  | i :: vs => by simp [restE, restE_length (vs := vs)]
theorem wipeE_at : ∀ {vs : List Nat} {j : Nat}, (wipeE vs ρ).getD j .un = if j ∈ vs then .un else ρ.getD j .un
  | [], j => by simp [wipeE]
  | i :: vs, j => by
    by_cases q : i = j
    · subst q
      by_cases h : i < (wipeE vs ρ).length
      · rw [wipeE, getD_set_self h]; simp
      · rw [wipeE, List.set_eq_of_length_le (by omega)]
        rw [List.getD, List.getElem?_eq_none (by omega)]; simp
    · have q' : ¬ j = i := fun z => q z.symm
      rw [wipeE, getD_set_ne q, wipeE_at]
      simp [q']
theorem wipe_at : ∀ {vs : List Nat} {j : Nat}, j ∉ vs → (wipe σ vs)[j]? = σ[j]?
  | [], j, _ => rfl
  | i :: vs, j, h => by
    have h1 : i ≠ j := fun z => h (by simp [z])
    rw [wipe, List.getElem?_set_ne h1, wipe_at fun z => h (by simp [z])]
theorem wipe_in : ∀ {vs : List Nat} {j : Nat}, j ∈ vs → j < σ.length → (wipe σ vs)[j]? = some none
  | [], j, h, _ => by simp at h
  | i :: vs, j, h, hl => by
    by_cases q : i = j
    · subst q
      rw [wipe, List.getElem?_set_self (by rw [wipe_length]; exact hl)]
    · rw [wipe, List.getElem?_set_ne q]
      exact wipe_in (by simpa [Ne.symm q] using h) hl
theorem wipe_eq {vs : List Nat} (hl : σ2.length = σ.length) (h : ∀ j, j ∉ vs → σ2[j]? = σ[j]?) : wipe σ2 vs = wipe σ vs := by
  apply List.ext_getElem?
  intro j
  by_cases q : j ∈ vs
  · by_cases hj : j < σ.length
    · rw [wipe_in q hj, wipe_in q (by omega)]
    · rw [List.getElem?_eq_none (by rw [wipe_length]; omega), List.getElem?_eq_none (by rw [wipe_length]; omega)]
  · rw [wipe_at q, wipe_at q, h j q]
theorem wipe_wipe {vs : List Nat} : wipe (wipe σ vs) vs = wipe σ vs := wipe_eq (wipe_length σ vs) fun j h => wipe_at h
theorem St.wiped (S : St K B F ρ σ H) (vs : List Nat) : St K B F (wipeE vs ρ) (wipe σ vs) H := by
  have is_ : ∀ i, isOw ((wipeE vs ρ).getD i .un) = true → i ∉ vs ∧ isOw (ρ.getD i .un) = true := fun i h => by
    rw [wipeE_at] at h
    by_cases q : i ∈ vs
    · rw [if_pos q] at h; cases h
    · rw [if_neg q] at h; exact ⟨q, h⟩
  refine ⟨S.ex, S.out, S.new, S.ge, S.thr, by rw [wipe_length, wipeE_length]; exact S.len, fun i => ?_, fun i j a h1 h2 e1 e2 => ?_, S.tb⟩
  · rw [wipeE_at]
    by_cases q : i ∈ vs
    · rw [if_pos q]; trivial
    · rw [if_neg q, wipe_at q]; exact S.sl i
  · obtain ⟨a1, a2⟩ := is_ i h1
    obtain ⟨b1, b2⟩ := is_ j h2
    rw [wipe_at a1] at e1
    rw [wipe_at b1] at e2
    exact S.own i j a a2 b2 e1 e2
theorem restE_at {ρ2 : Env} (hlen : ρ2.length = ρ1.length) : ∀ {vs : List Nat} {j : Nat}, (restE vs ρ1 ρ2).getD j .un = if j ∈ vs then fzOnly (gt ρ1 j) else ρ2.getD j .un
  | [], j => by simp [restE]
  | i :: vs, j => by
    by_cases q : i = j
    · subst q
      by_cases h : i < (restE vs ρ1 ρ2).length
      · rw [restE, getD_set_self h]; simp
      · rw [restE, List.set_eq_of_length_le (by omega)]
        rw [List.getD, List.getElem?_eq_none (by omega)]
        rw [restE_length] at h
        have : gt ρ1 i = .un := by unfold gt; rw [List.getD, List.getElem?_eq_none (by omega)]; rfl
        simp [this, fzOnly]
    · have q' : ¬ j = i := fun z => q z.symm
      rw [restE, getD_set_ne q, restE_at hlen]
      simp [q']
/-- the block is left: its own names are again what they were -/
theorem St.rest {ρ2 : Env} (S : St K B F ρ1 σ H) (vs : List Nat) (e : Ex F F') (S2 : St K B F' ρ2 (wipe σ vs) H') (hw : ∀ j ∈ vs, isOw (ρ2.getD j .un) = false) : St K B F' (restE vs ρ1 ρ2) σ H' := by
  have at_ := fun j => restE_at (vs := vs) (j := j) (show ρ2.length = ρ1.length by rw [← S2.len, wipe_length, S.len])
  have is_ : ∀ i, isOw ((restE vs ρ1 ρ2).getD i .un) = true → i ∉ vs ∧ isOw (ρ2.getD i .un) = true := fun i h => by
    rw [at_] at h
    by_cases q : i ∈ vs
    · rw [if_pos q] at h
      cases hs : gt ρ1 i <;> rw [hs] at h <;> cases h
    · rw [if_neg q] at h; exact ⟨q, h⟩
  refine ⟨S2.ex, S2.out, S2.new, S2.ge, S2.thr, by rw [restE_length, ← S2.len, wipe_length], fun i => ?_, fun i j a h1 h2 e1 e2 => ?_, S2.tb⟩
  · rw [at_]
    by_cases q : i ∈ vs
    · rw [if_pos q]
      cases hs : gt ρ1 i with
      | un => trivial
      | ow b c => trivial
      | fz d =>
        obtain ⟨v, e1, r⟩ := S.fz hs
        exact ⟨v, e1, r.mono e⟩
    · rw [if_neg q]
      have := S2.sl i
      rw [wipe_at q] at this
      exact this
  · obtain ⟨a1, a2⟩ := is_ i h1
    obtain ⟨b1, b2⟩ := is_ j h2
    exact S2.own i j a a2 b2 (by rw [wipe_at a1]; exact e1) (by rw [wipe_at b1]; exact e2)
end
structure PDTs (X : Cx) (W : WX) (es : List Expr) (de : DT) : Prop where
  mono : MonoT de
  run : PTs X es (liftT X.K W de)
def bYes : DT := fun ρ _ K => K true ρ
section
variable {X : Cx} {W : WX} {a b c e elt tg it : Expr} {da db : DE} {dt : DT} {di : DI} {das : DAs} {es ifs : List Expr} {pos p : Pos}
theorem PTs.imp {t t' : TT} (h : PTs X es t) (hi : ∀ σ H Q, t' σ H Q → t σ H Q) : PTs X es t' := ⟨fun pins s σ H Q I q => h.run pins s σ H Q I (hi σ H Q q)⟩
theorem pdts_nil : PDTs X W [] bYes := ⟨⟨fun hx hk h => hk _ _ h⟩, PTs.imp pts_nil fun σ H Q ⟨B, F, ρ, S, h⟩ => h F H (Ex.refl _) S⟩
theorem pdts_one (h : PDT X W c dt) : PDTs X W [c] dt := ⟨h.mono, pts_one h.run⟩
/-- the turns of a list comprehension -/
def lcL (dg : DG) (dt : DT) (de : DE) (vs : List Nat) : List D → List D → Env → (List D → Env → Prop) → Prop
  | [], acc, ρ, K => K acc ρ
  | d :: ds, acc, ρ, K => dg d ρ fun ρ1 => dt ρ1 X0 fun b ρ2 => if b = true then de ρ2 X0 fun y ρ3 => lcL dg dt de vs ds (acc ++ [y]) (wipeE vs ρ3) K else lcL dg dt de vs ds acc (wipeE vs ρ2) K
def nLC (di : DI) (dg : DG) (dt : DT) (de : DE) (vs : List Nat) : NE := fun ρ X K => di ρ X fun ds ρ1 => ds.length ≤ 1000000 ∧ lcL dg dt de vs ds [] (wipeE vs ρ1) fun acc ρ2 => K (.lst acc) (restE vs ρ1 (wipeE vs ρ2))
theorem mono_lcL {dg : DG} {vs : List Nat} (mg : MonoG dg) (mt : MonoT dt) (me : MonoE da) : ∀ {ds acc : List D} {ρ : Env} {K K' : List D → Env → Prop}, (∀ xs ρ, K xs ρ → K' xs ρ) → lcL dg dt da vs ds acc ρ K → lcL dg dt da vs ds acc ρ K'
  | [], _, _, _, _, hk, h => hk _ _ h
  | d :: ds, acc, ρ, K, K', hk, h => mg.go (fun ρ h => mt.go (fun _ _ h => h) (fun b ρ h => by
    cases b with
    | true => exact me.go (fun _ _ h => h) (fun y ρ h => mono_lcL mg mt me hk h) h
    | false => exact mono_lcL mg mt me hk h) h) h
theorem mono_nLC {dg : DG} {vs : List Nat} (mi : MonoI di) (mg : MonoG dg) (mt : MonoT dt) (me : MonoE da) : MonoN (nLC di dg dt da vs) := ⟨fun hx hk h => mi.go hx (fun ds ρ h => ⟨h.1, mono_lcL mg mt me (fun xs ρ h => hk _ _ h) h.2⟩) h⟩
theorem lc_turn {dg : DG} {g : TG} {is vs : List Nat} {Xb : Cx} (hK : Xb.K = X.K) (hg : PDG Xb tg g dg is) (mt : MonoT dt) (me : MonoE da) (his : ∀ j ∈ is, j ∈ vs) {B B' : Base} {F F1 : Hp} {ρ1 : Env} {σ : L2.St} {H1 : Hp} {J : It} {ds : List D} {Q : VK}
    (l : B.Le B') (e1 : Ex F F1) (S1 : St X.K B' F1 ρ1 σ H1) (Y : Yld X.K B'.G F1 J ds) (h : ds.length ≤ 1000000 ∧ lcL dg dt da vs ds [] (wipeE vs ρ1) fun acc ρ2 => ∀ v F' H', Ex F F' → St X.K B F' (restE vs ρ1 (wipeE vs ρ2)) σ H' → NwR X.K B F' (restE vs ρ1 (wipeE vs ρ2)) σ H' v (.lst acc) → Q v H') :
    ∀ D, H1 D = none → ∃ W' : Nat → Nat → Hp → Prop, (∃ m, W' 0 m (upd H1 D (.lst []))) ∧ ∀ i m H, W' i m H →
      (J.stop i H ∧ Q (.ref D) H) ∨ (J.go i H ∧ ∃ Nx : Hp → Prop, (∀ H', Nx H' → ∃ m', m' < m ∧ W' (i + 1) m' H') ∧ ∀ x H', J.yld i H x H' → g x (wipe σ vs) H' fun σ2 H2 => wipe σ2 vs = wipe σ vs ∧ liftT X.K W0 dt σ2 H2 fun b H3 =>
        if b = true then liftE X.K W0 da σ2 H3 fun y H4 => ∃ acc, H4 D = some (.lst acc) ∧ acc.length < sizeLine ∧ Nx (upd H4 D (.lst (acc ++ [y]))) else Nx H3) := by
  intro Dl hD
  obtain ⟨hz, h⟩ := h
  -- the new list at Dl
  obtain ⟨S2, fD, gD, h0D⟩ := S1.keepNew (o := .lst []) hD
  have f0D : B'.F0 Dl = none := by
    cases q : B'.F0 Dl with
    | none => rfl
    | some u => have := S1.ge _ _ q; rw [fD] at this; cases this
  have noD : ∀ i, isOw ((wipeE vs ρ1).getD i .un) = true → (wipe σ vs)[i]? ≠ some (some (.ref Dl)) := fun i hi z => by
    have S3 := S1.wiped vs
    cases hs : (wipeE vs ρ1).getD i .un with
    | un => rw [hs] at hi; cases hi
    | fz d => rw [hs] at hi; cases hi
    | ow b c =>
      obtain ⟨a', e1, ⟨_, _, o', ho', _⟩, _⟩ := S3.ow hs
      rw [z] at e1
      have : Dl = a' := by simpa using e1
      subst this
      rw [hD] at ho'; cases ho'
  -- the invariant
  refine ⟨fun i m H' => ∃ (F' : Hp) (ρ' : Env) (acc : List D) (accV : List V), Ex F1 F' ∧ St X.K (B'.prot Dl (.lst accV)) F' ρ' (wipe σ vs) H' ∧ Reps X.K F' accV acc ∧ acc.length ≤ i ∧ (∀ j ∈ vs, isOw (ρ'.getD j .un) = false) ∧ m = ds.length - i ∧ i ≤ ds.length ∧
    lcL dg dt da vs (ds.drop i) acc ρ' fun acc ρ2 => ∀ v F' H', Ex F F' → St X.K B F' (restE vs ρ1 (wipeE vs ρ2)) σ H' → NwR X.K B F' (restE vs ρ1 (wipeE vs ρ2)) σ H' v (.lst acc) → Q v H', ?_, ?_⟩
  · refine ⟨ds.length, F1, wipeE vs ρ1, [], [], Ex.refl _, (S2.wiped vs).prot upd_same fD noD, .nil, Nat.le_refl _, fun j hj => by rw [wipeE_at, if_pos hj]; rfl, rfl, Nat.zero_le _, h⟩
  · rintro i m H' ⟨F', ρ', acc, accV, e', S', rA, hla, hwp, rfl, hi', h'⟩
    obtain ⟨y1, y2, y3⟩ := Y (B'.prot Dl (.lst accV)) F' ρ' (wipe σ vs) H' (Ex.new gD) e' S'
    by_cases hlt : i < ds.length
    · have hd : ds.drop i = ds[i] :: ds.drop (i + 1) := List.drop_eq_getElem_cons hlt
      rw [hd] at h'
      refine .inr ⟨y1 i hlt, fun H2 => ∃ (F' : Hp) (ρ' : Env) (acc : List D) (accV : List V), Ex F1 F' ∧ St X.K (B'.prot Dl (.lst accV)) F' ρ' (wipe σ vs) H2 ∧ Reps X.K F' accV acc ∧ acc.length ≤ i + 1 ∧ (∀ j ∈ vs, isOw (ρ'.getD j .un) = false) ∧
        lcL dg dt da vs (ds.drop (i + 1)) acc ρ' fun acc ρ2 => ∀ v F' H', Ex F F' → St X.K B F' (restE vs ρ1 (wipeE vs ρ2)) σ H' → NwR X.K B F' (restE vs ρ1 (wipeE vs ρ2)) σ H' v (.lst acc) → Q v H',
        fun H2 ⟨F2, ρ2, acc2, accV2, e2, S2, r2, l2, w2, h2⟩ => ⟨ds.length - (i + 1), by omega, F2, ρ2, acc2, accV2, e2, S2, r2, l2, w2, rfl, hlt, h2⟩, fun x H3 y => ?_⟩
      obtain ⟨F3, e3, S3, r3⟩ := y3 i ds[i] x H3 (by simp [hlt]) y
      have S3 : St Xb.K (B'.prot Dl (.lst accV)) F3 ρ' (wipe σ vs) H3 := by rw [hK]; exact S3
      have r3 : Rep Xb.K F3 x ds[i] := by rw [hK]; exact r3
      refine hg.run S3 r3 h' fun ρ4 h4 F4 σ4 H4 e4 l4 o4 S4 => ?_
      have S4 : St X.K (B'.prot Dl (.lst accV)) F4 ρ4 σ4 H4 := by rw [← hK]; exact S4
      have w4 : wipe σ4 vs = wipe σ vs := by
        have := wipe_eq (σ := wipe σ vs) (σ2 := σ4) (vs := vs) l4 fun j hj => o4 j fun z => hj (his j z)
        rw [this, wipe_wipe]
      refine ⟨w4, liftT.of (W := W0) (F0 := F4) mt (Ex.refl _) S4 (mt.go (fun _ _ h => h.elim) (fun _ _ h => h) h4) fun t ρ5 h5 F5 H5 e5 S5 => ?_⟩
      have wip : ∀ {ρ : Env}, ∀ j ∈ vs, isOw ((wipeE vs ρ).getD j .un) = false := fun {ρ} j hj => by rw [wipeE_at, if_pos hj]; rfl
      cases t with
      | false =>
        have S6 := S5.wiped vs
        rw [w4] at S6
        exact ⟨F5, _, acc, accV, ((e'.trans e3).trans e4).trans e5, S6, rA.mono ((e3.trans e4).trans e5), by omega, wip, h5⟩
      | true =>
        refine liftE.of (W := W0) (F0 := F5) me (Ex.refl _) S5 (me.go (fun _ _ h => h.elim) (fun _ _ h => h) h5) fun z ρ6 h6 u F6 H6 e6 S6 r6 => ?_
        have eA := (((e'.trans e3).trans e4).trans e5).trans e6
        have eB := ((e3.trans e4).trans e5).trans e6
        obtain ⟨S7, hD7, fD7, no7⟩ := S6.unprot gD f0D fun _ z => (nomatch z)
        refine ⟨accV, hD7, ?_, F6, _, acc ++ [z], accV ++ [u], eA, ?_, (rA.mono eB).append (.cons r6 .nil), by simp; omega, wip, h6⟩
        · rw [rA.length]
          have : acc.length ≤ 1000000 := by omega
          have h2 : (1000000 : Nat) < sizeLine := by rw [sizeLine_eq]; decide
          omega
        · -- the list is written: out of the ground, into it
          have S8 := S7.wiped vs
          rw [w4] at S8
          have no8 : ∀ j, isOw ((wipeE vs ρ6).getD j .un) = true → (wipe σ vs)[j]? ≠ some (some (.ref Dl)) := fun j hj z => by
            rw [wipeE_at] at hj
            by_cases q : j ∈ vs
            · rw [if_pos q] at hj; cases hj
            · rw [if_neg q] at hj
              refine no7 j hj ?_
              rw [← w4, wipe_at q] at z; exact z
          -- a thing that nobody holds is written
          have S9 : St X.K B' F6 (wipeE vs ρ6) (wipe σ vs) (upd H6 Dl (.lst (accV ++ [u]))) := by
            refine ⟨S8.ex.upd fD7, fun x w hx => ?_, S8.new, S8.ge, S8.thr.upd fun _ z => (nomatch z), S8.len, fun j => ?_, S8.own, S8.tb.upd hD7 notb_lst⟩
            · have q : x ≠ Dl := fun z => by rw [z, gD] at hx; cases hx
              rw [upd_ne q]; exact S8.out x w hx
            · have s := S8.sl j
              cases hs : (wipeE vs ρ6).getD j .un with
              | un => trivial
              | fz d => rw [hs] at s; exact s
              | ow b' c2 =>
                rw [hs] at s
                obtain ⟨a2, e2, ⟨nf2, ng2, u2, hu2, hc2⟩, g2, g3⟩ := s
                have q : a2 ≠ Dl := fun z => no8 j (by rw [hs]; rfl) (by rw [e2, z])
                exact ⟨a2, e2, ⟨nf2, ng2, u2, by rw [upd_ne q]; exact hu2, hc2⟩, g2, g3⟩
          exact S9.prot upd_same fD7 no8
    · have e : i = ds.length := by omega
      subst e
      rw [List.drop_length] at h'
      refine .inl ⟨y2, ?_⟩
      obtain ⟨S7, hD7, fD7, no7⟩ := S'.unprot gD f0D fun _ z => (nomatch z)
      have S7w := S7.wiped vs
      rw [wipe_wipe] at S7w
      have S8 := S1.rest vs e' S7w fun j hj => by rw [wipeE_at, if_pos hj]; rfl
      refine h' _ F' H' (e1.trans e') (S8.weaken l) (NwR.weaken l ⟨Dl, rfl, ⟨fD7, gD, .lst accV, hD7, accV, rfl, rA⟩, h0D, fun j hj z => ?_⟩)
      rw [restE_at (by rw [wipeE_length, ← S7.len, wipe_length, S1.len])] at hj
      by_cases q : j ∈ vs
      · rw [if_pos q] at hj
        cases hs2 : gt ρ1 j <;> rw [hs2] at hj <;> cases hj
      · rw [if_neg q, wipeE_at, if_neg q] at hj
        exact no7 j hj (by rw [wipe_at q]; exact z)
/-- the reading of a list comprehension -/
theorem lcT {dg : DG} {g : TG} {is vs : List Nat} {Xb : Cx} (hK : Xb.K = X.K) (mi : MonoI di) (hg : PDG Xb tg g dg is) (mt : MonoT dt) (me : MonoE da) (his : ∀ j ∈ is, j ∈ vs) {σ : L2.St} {H : Hp} {Q : VK} (h : liftN X.K W (nLC di dg dt da vs) σ H Q) :
    tLc (liftI X.K W di) g (liftT X.K W0 dt) (liftE X.K W0 da) vs σ H Q := by
  obtain ⟨B, F, ρ, S, h⟩ := h
  exact ⟨B, F, ρ, S, mi.go (fun _ _ h => h) (fun ds ρ1 h J B' F1 H1 l e1 S1 Y => lc_turn hK hg mt me his l e1 S1 Y h) h⟩
end
end DL
set_option Elab.async false
set_option linter.all false
set_option maxRecDepth 100000
set_option maxHeartbeats 1000000
/-! DL11: the rules of list comprehensions. -/
namespace DL
open PySem L2 Evl
variable [Tbs]
section
variable {X : Cx} {W : WX} {a b c e elt tg it : Expr} {da db de : DE} {dt : DT} {di : DI} {dn : NE} {das : DAs} {es ifs : List Expr} {pos p : Pos}
theorem pn_lc {dg : DG} {g : TG} {is vs : List Nat} {scope : Scope} {own : List (Str × Nat)} (hc : X.calm = true) (hN : X.N.Nodup) (hi : PDI X W tg it di) (ok : BlkOk X.N X.env.scope scope own) (hv : own.map (·.2) = vs)
    (hg : ∀ (s : Shared) (H : Hp) (C : Addr) (cl : List (Str × Addr)) (fp : List Addr), PDG (X.blk s H scope (compEnvC scope cl C X.env) fp) tg g dg is) (his : ∀ j ∈ is, j ∈ vs)
    (ht : ∀ (s : Shared) (H : Hp) (C : Addr) (cl : List (Str × Addr)) (fp : List Addr), PDTs (X.blk s H scope (compEnvC scope cl C X.env) fp) W0 ifs dt)
    (he : ∀ (s : Shared) (H : Hp) (C : Addr) (cl : List (Str × Addr)) (fp : List Addr), PD (X.blk s H scope (compEnvC scope cl C X.env) fp) W0 elt de) (hs : ∀ x, foldedSetIterable it X.env x = pure x := by intro _; rfl) :
    PN X W (.ListComp elt [⟨tg, it, ifs, 0⟩] scope pos) (nLC di dg dt de vs) := by
  subst hv
  have mg := (hg X.s_0 X.H_0 0 [] []).mono
  have mt := (ht X.s_0 X.H_0 0 [] []).mono
  have me := (he X.s_0 X.H_0 0 [] []).mono
  exact ⟨mono_nLC hi.mono mg mt me, PE.imp (pe_lc (pos := pos) hc hN hi.run ok (fun s H C cl fp => (hg s H C cl fp).pg) (fun s H C cl fp => (ht s H C cl fp).run) (fun s H C cl fp => (he s H C cl fp).run) hs)
    fun σ H Q h => lcT (Xb := X.blk X.s_0 X.H_0 scope (compEnvC scope [] 0 X.env) []) rfl hi.mono (hg _ _ _ _ _) mt me his h⟩
theorem pds_ownLc {i : Nat} {y : Str} {py spos : Pos} {dg : DG} {g : TG} {is vs : List Nat} {scope : Scope} {own : List (Str × Nat)} (hc : X.calm = true) (hN : X.N.Nodup) (hy : X.N[i]? = some y) (hyl : X.env.scope.names.lookup y = some .local)
    (hsw : swapsWith (.ListComp elt [⟨tg, it, ifs, 0⟩] scope pos) (some (.Name y py)) spos.line X.env = pure true) (hi : PDI X W tg it di) (ok : BlkOk X.N X.env.scope scope own) (hv : own.map (·.2) = vs)
    (hg : ∀ (s : Shared) (H : Hp) (C : Addr) (cl : List (Str × Addr)) (fp : List Addr), PDG (X.blk s H scope (compEnvC scope cl C X.env) fp) tg g dg is) (his : ∀ j ∈ is, j ∈ vs)
    (ht : ∀ (s : Shared) (H : Hp) (C : Addr) (cl : List (Str × Addr)) (fp : List Addr), PDTs (X.blk s H scope (compEnvC scope cl C X.env) fp) W0 ifs dt)
    (he : ∀ (s : Shared) (H : Hp) (C : Addr) (cl : List (Str × Addr)) (fp : List Addr), PD (X.blk s H scope (compEnvC scope cl C X.env) fp) W0 elt de) (hs : ∀ x, foldedSetIterable it X.env x = pure x := by intro _; rfl) :
    PDS X W (.Assign [.Name y py] (.ListComp elt [⟨tg, it, ifs, 0⟩] scope pos) spos) (dOwn (nLC di dg dt de vs) i) := by
  subst hv
  have mg := (hg X.s_0 X.H_0 0 [] []).mono
  have mt := (ht X.s_0 X.H_0 0 [] []).mono
  have me := (he X.s_0 X.H_0 0 [] []).mono
  have mn := mono_nLC (vs := own.map (·.2)) hi.mono mg mt me
  exact ⟨⟨fun le q => mn.go le.ex (fun c ρ q => le.nx _ q) q⟩, PS.imp (ps_setLc hc hN hy hyl hsw hi.run ok (fun s H C cl fp => (hg s H C cl fp).pg) (fun s H C cl fp => (ht s H C cl fp).run) (fun s H C cl fp => (he s H C cl fp).run) hs)
    fun D σ H ⟨B, F, ρ, S, q⟩ => lcT (Xb := X.blk X.s_0 X.H_0 scope (compEnvC scope [] 0 X.env) []) rfl hi.mono (hg _ _ _ _ _) mt me his
      (liftN.ofS mn S q fun d ρ1 q v F1 H1 e1 S1 r1 => q F1 _ H1 e1 (S1.set_ow' r1))⟩
end
end DL
set_option Elab.async false
set_option linter.all false
set_option maxRecDepth 100000
set_option maxHeartbeats 1000000
/-! DL12: owned lists and dicts: what is read and written in place. -/
namespace DL
open PySem L2 Evl
variable [Tbs]
def owC : Sl → (Bool → Ct → Prop) → Prop
  | .ow b c, k => k b c
  | _, _ => False
theorem owC.eq {s : Sl} {k : Bool → Ct → Prop} (h : owC s k) : ∃ b c, s = .ow b c ∧ k b c := by
  cases s with
  | un => exact h.elim
  | fz d => exact h.elim
  | ow b c => exact ⟨_, _, rfl, h⟩
theorem owC.mono {s : Sl} {k k' : Bool → Ct → Prop} (hk : ∀ b c, k b c → k' b c) (h : owC s k) : owC s k' := by
  cases s with
  | un => exact h.elim
  | fz d => exact h.elim
  | ow b c => exact hk _ _ h
def owL : Sl → (Bool → List D → Prop) → Prop
  | .ow b (.lst ds), k => k b ds
  | _, _ => False
theorem owL.eq {s : Sl} {k : Bool → List D → Prop} (h : owL s k) : ∃ b c, s = .ow b (.lst c) ∧ k b c := by
  cases s with
  | un => exact h.elim
  | fz d => exact h.elim
  | ow b c => cases c <;> first | exact ⟨_, _, rfl, h⟩ | exact h.elim
theorem owL.mono {s : Sl} {k k' : Bool → List D → Prop} (hk : ∀ b c, k b c → k' b c) (h : owL s k) : owL s k' := by
  obtain ⟨b, c, e, h⟩ := h.eq
  subst e
  exact hk _ _ h
section
variable {X : Cx} {W : WX} {a b c e : Expr} {da db de : DE} {dt : DT} {dn : NE} {pos p : Pos}
/-- a name read as a value: what it owned is frozen from here on -/
def eVarF (i : Nat) : DE := fun ρ _ K => match gt ρ i with
  | .fz d => K d ρ
  | .ow false c => K c.d (ρ.set i (.fz c.d))
  | _ => False
theorem pd_varF (i : Nat) {x : Str} (hN : X.N[i]? = some x := by rfl) (hv : Vis X.env.scope x := by first | exact Or.inl rfl | exact Or.inr (Or.inl rfl) | exact Or.inr (Or.inr rfl)) (hd : (x == ("__debug__" : Str)) = false := by decide)
    (hcd : (x == ("__classdict__" : Str)) = false := by decide) : PD X W (.Name x pos) (eVarF i) := by
  refine ⟨⟨fun {ρ} _ _ _ _ hx hk h => ?_⟩, PE.imp (pe_var hN hv hd hcd) fun σ H Q ⟨B, F, ρ, S, h⟩ => ?_⟩
  · unfold eVarF at h ⊢
    cases hs : gt ρ i with
    | un => rw [hs] at h; exact h.elim
    | fz d => rw [hs] at h; exact hk _ _ h
    | ow b c =>
      rw [hs] at h
      cases b with
      | true => exact h.elim
      | false => exact hk _ _ h
  · unfold eVarF at h
    cases hs : gt ρ i with
    | un => rw [hs] at h; exact h.elim
    | fz d =>
      rw [hs] at h
      obtain ⟨v, e1, r⟩ := S.fz hs
      exact ⟨v, e1, h v F H (Ex.refl _) S r⟩
    | ow b c =>
      rw [hs] at h
      cases b with
      | true => exact h.elim
      | false =>
        obtain ⟨v, F', e1, e2, r, S'⟩ := S.freezeSlot hs
        exact ⟨v, e1, h v F' H e2 S' r⟩
/-! lists -/
def dApp (i : Nat) (de : DE) : DS := fun ρ P => owL (gt ρ i) fun _ _ => de ρ P.ex fun y ρ1 => owL (gt ρ1 i) fun b ds => ds.length ≤ 1000000 ∧ P.nx (ρ1.set i (.ow b (.lst (ds ++ [y]))))
theorem pds_app (i : Nat) {x : Str} {apos cpos : Pos} (he : PD X W e de) (hN : X.N[i]? = some x := by rfl) (hv : Vis X.env.scope x := by first | exact Or.inl rfl | exact Or.inr (Or.inl rfl) | exact Or.inr (Or.inr rfl)) (hd : (x == ("__debug__" : Str)) = false := by decide)
    (hcd : (x == ("__classdict__" : Str)) = false := by decide) (hbase : attributeBase (.Name x p) ("append" : Str) X.env (eval (.Name x p) X.env) = eval (.Name x p) X.env := by rfl)
    (hfew : ((backTo cpos (starEach [e] X.env)).all (fun x => !x.1) && (backToKw cpos (keywordEach [] X.env)).all (fun x => x.1.isSome)
      && decide (([e]).length + ([] : List Keyword).length + (if ([] : List Keyword).isEmpty then 0 else 1) < 30)) = true := by rfl)
    (hline : (apos.endLine == cpos.line) = true := by rfl) (hse : starEach [e] X.env = (false, eval e X.env) :: starEach [] X.env := by rfl) (hplain : (backTo cpos (starEach [] X.env)).any (·.1) = false := by rfl)
    (hs : swapsWith (.Call (.Attribute (.Name x p) ("append" : Str) apos) [e] [] cpos) none pos.line X.env = pure false := by rfl) : PDS X W (.Expr (.Call (.Attribute (.Name x p) ("append" : Str) apos) [e] [] cpos) pos) (dApp i de) := by
  refine ⟨⟨fun le q => owL.mono (fun _ _ q => he.mono.go le.ex (fun y ρ q => owL.mono (fun b ds q => ⟨q.1, le.nx _ q.2⟩) q) q) q⟩, PS.imp (ps_expr (pe_bm PySem.F.plainAttrs_list PySem.F.slot_list_append PySem.F.type_list_append mt_append (pe_var (i := i) hN hv hd hcd) (pa_cons he.run pa_nil hse) hbase hfew hline hse hplain) hs) fun En σ H ⟨B, F, ρ, S, h⟩ => ?_⟩
  obtain ⟨b0, c0, e0, h⟩ := h.eq
  obtain ⟨q0, vs0, e1, hq0, _⟩ := S.lstAt e0
  refine ⟨_, e1, .inl ⟨rfl, _, .inl (.inl hq0)⟩, liftE.ofS he.mono S h fun y ρ1 h v F1 H1 x1 S1 r1 => ?_⟩
  obtain ⟨b2, ds, e2, hz, h⟩ := h.eq
  obtain ⟨q2, vs, e3, hq2, r⟩ := S1.lstAt e2
  rw [e1] at e3
  have : q0 = q2 := by simpa using e3
  subst this
  refine ⟨_, vs, v, rfl, rfl, hq2, ?_, h F1 σ _ x1 (S1.write e2 e1 ⟨_, rfl, r.append (.cons r1 .nil)⟩)⟩
  rw [r.length, sizeLine_eq]
  exact Nat.lt_of_le_of_lt hz (by decide)
def ePop (i : Nat) : DE := fun ρ _ K => owL (gt ρ i) fun b ds => ∃ d, ds[ds.length - 1]? = some d ∧ K d (ρ.set i (.ow b (.lst ds.dropLast)))
theorem pd_pop (i : Nat) {x : Str} {apos cpos : Pos} (hN : X.N[i]? = some x := by rfl) (hv : Vis X.env.scope x := by first | exact Or.inl rfl | exact Or.inr (Or.inl rfl) | exact Or.inr (Or.inr rfl)) (hd : (x == ("__debug__" : Str)) = false := by decide)
    (hcd : (x == ("__classdict__" : Str)) = false := by decide) (hbase : attributeBase (.Name x p) ("pop" : Str) X.env (eval (.Name x p) X.env) = eval (.Name x p) X.env := by rfl) (hline : (apos.endLine == cpos.line) = true := by rfl) :
    PD X W (.Call (.Attribute (.Name x p) ("pop" : Str) apos) [] [] cpos) (ePop i) := by
  refine ⟨⟨fun hx hk h => owL.mono (fun b ds ⟨d, h1, h2⟩ => ⟨d, h1, hk _ _ h2⟩) h⟩, PE.imp (pe_bm0 PySem.F.plainAttrs_list PySem.F.slot_list_pop PySem.F.type_list_pop mt_pop (pe_var (i := i) hN hv hd hcd) hbase hline) fun σ H Q ⟨B, F, ρ, S, h⟩ => ?_⟩
  obtain ⟨b, ds, e, d, h1, h⟩ := h.eq
  obtain ⟨q, vs, e1, hq, r⟩ := S.lstAt e
  obtain ⟨u, hu, ru⟩ := r.get_some h1
  refine ⟨_, e1, .inl ⟨rfl, _, .inl (.inl hq)⟩, _, vs, u, rfl, rfl, hq, by rw [r.length]; exact hu, h u F _ (Ex.refl _) (S.write e e1 ⟨_, rfl, ?_⟩) ru⟩
  rw [List.dropLast_eq_take, List.dropLast_eq_take, r.length]
  exact r.take _
end
/-! dicts -/
def D.key : D → Option Key
  | .int n => some (.inl n)
  | .str x => some (.inr x)
  | _ => Option.none
def keysOf : List D → Option (List Key)
  | [] => some []
  | x :: xs => match x.key, keysOf xs with
    | some k, some ks => some (k :: ks)
    | _, _ => Option.none
def D.keys : D → Option (List Key)
  | .tuple xs => keysOf xs
  | _ => Option.none
def dVal {κ : Type} [DecidableEq κ] (kvs : List (κ × D)) (k : κ) : Option D := (kvs.find? fun kv => decide (kv.1 = k)).map (·.2)
def dPut {κ : Type} [DecidableEq κ] (kvs : List (κ × D)) (k : κ) (v : D) : List (κ × D) :=
  if (kvs.any fun kv => decide (kv.1 = k)) = true then kvs.map (fun kv => if kv.1 = k then (kv.1, v) else kv) else kvs ++ [(k, v)]
def dget : D → D → Option (Option D)
  | .dict kvs, k => k.key.map (dVal kvs)
  | .dictT kvs, k => k.keys.map (dVal kvs)
  | _, _ => Option.none
def ctPut : Ct → D → D → Option Ct
  | .lst ds, .int n, y => (ixN ds.length n).map fun j => .lst (ds.set j y)
  | .dct kvs, k, y => if kvs.length ≤ 1000000 then k.key.map fun k => .dct (dPut kvs k y) else Option.none
  | .dctT kvs, k, y => if kvs.length ≤ 1000000 then k.keys.map fun k => .dctT (dPut kvs k y) else Option.none
  | _, _, _ => Option.none
section
variable {K : PySem.W.Frag} {F F' H : Hp} {κ : Type} [DecidableEq κ]
theorem KReps.val {k : κ} : ∀ {ws : List (κ × V)} {kvs : List (κ × D)}, KReps K F ws kvs → (dVal kvs k = none → valV ws k = none) ∧ ∀ d, dVal kvs k = some d → ∃ v, valV ws k = some v ∧ Rep K F v d
  | [], [], .nil => ⟨fun _ => rfl, fun d h => by simp [dVal] at h⟩
  | (k1, v) :: ws, (_, d) :: kvs, .cons r t => by
    by_cases q : k1 = k
    · rw [valV_pos (p := (k1, v)) q]
      have : dVal ((k1, d) :: kvs) k = some d := by simp [dVal, List.find?_cons, q]
      rw [this]
      refine ⟨fun h => (nomatch h), fun d' h => ?_⟩
      obtain rfl : d = d' := by simpa using h
      exact ⟨v, rfl, r⟩
    · rw [valV_neg (p := (k1, v)) q]
      have : dVal ((k1, d) :: kvs) k = dVal kvs k := by simp [dVal, List.find?_cons, q]
      rw [this]
      exact KReps.val t
theorem KReps.any {k : κ} : ∀ {ws : List (κ × V)} {kvs : List (κ × D)}, KReps K F ws kvs → (ws.any fun kv => decide (kv.1 = k)) = (kvs.any fun kv => decide (kv.1 = k))
  | [], [], .nil => rfl
  | (k1, v) :: ws, (_, d) :: kvs, .cons r t => by simp [KReps.any t]
theorem KReps.mapPut {k : κ} {v : V} {d : D} (rv : Rep K F v d) : ∀ {ws : List (κ × V)} {kvs : List (κ × D)}, KReps K F ws kvs → KReps K F (ws.map (fun kv => if kv.1 = k then (kv.1, v) else kv)) (kvs.map (fun kv => if kv.1 = k then (kv.1, d) else kv))
  | [], [], .nil => .nil
  | (k1, v1) :: ws, (_, d1) :: kvs, .cons r t => by
    rw [List.map_cons, List.map_cons]
    by_cases q : k1 = k
    · rw [if_pos q, if_pos q]; exact .cons rv (KReps.mapPut rv t)
    · rw [if_neg q, if_neg q]; exact .cons r (KReps.mapPut rv t)
theorem KReps.app : ∀ {ws : List (κ × V)} {kvs : List (κ × D)} {ws' : List (κ × V)} {kvs' : List (κ × D)}, KReps K F ws kvs → KReps K F ws' kvs' → KReps K F (ws ++ ws') (kvs ++ kvs')
  | [], [], _, _, .nil, h => h
  | (k1, v1) :: ws, (_, d1) :: kvs, _, _, .cons r t, h => .cons r (KReps.app t h)
theorem KReps.put {k : κ} {v : V} {d : D} {ws : List (κ × V)} {kvs : List (κ × D)} (h : KReps K F ws kvs) (rv : Rep K F v d) : KReps K F (putK ws k v) (dPut kvs k d) := by
  unfold putK dPut
  rw [h.any]
  by_cases q : (kvs.any fun kv => decide (kv.1 = k)) = true
  · rw [if_pos q, if_pos q]; exact KReps.mapPut rv h
  · rw [if_neg q, if_neg q]; exact h.app (.cons rv .nil)
theorem key_rep {v : V} {d : D} {k : Key} (r : Rep K F v d) (h : d.key = some k) : v = kV k := by
  cases d with
  | int n => cases h; cases r.int_inv; rfl
  | str x => cases h; cases r.str_inv; rfl
  | _ => cases h
theorem keysOf_rep : ∀ {vs : List V} {ds : List D} {ks : List Key}, Reps K F vs ds → keysOf ds = some ks → vs = ks.map kV
  | _, _, ks, .nil, h => by cases h; rfl
  | _, _, ks, .cons (ds := ds) (d := d) r t, h => by
    unfold keysOf at h
    cases h1 : d.key with
    | none => rw [h1] at h; cases h
    | some k =>
      cases h2 : keysOf ds with
      | none => rw [h1, h2] at h; cases h
      | some ks' =>
        rw [h1, h2] at h
        cases h
        rw [key_rep r h1, keysOf_rep t h2]; rfl
theorem keys_rep {v : V} {d : D} {ks : List Key} (r : Rep K F v d) (h : d.keys = some ks) : ∃ b, v = .ref b ∧ F b = some (.tup (ks.map kV)) := by
  cases d with
  | tuple xs =>
    obtain ⟨b, vs, rfl, hb, r⟩ := r.tuple_inv2
    exact ⟨b, rfl, by rw [hb, keysOf_rep r h]⟩
  | _ => cases h
/-- what a dict's object gives -/
theorem dget_ct {H : Hp} {a : Addr} {o : HO} {c : Ct} {y : V} {k : D} {od : Option D} (e : ExL F H) (ho : Rd H a o) (hc : CtR K F a o c) (ry : Rep K F y k) (h : dget c.d k = some od) :
    ∃ ov, DGet H a y ov ∧ ov.isSome = od.isSome ∧ ∀ d, od = some d → ∃ v, ov = some v ∧ Rep K F v d := by
  have fin : ∀ {κ : Type} [DecidableEq κ] {ws : List (κ × V)} {kvs : List (κ × D)} {k : κ}, KReps K F ws kvs → dVal kvs k = od → (valV ws k).isSome = od.isSome ∧ ∀ d, od = some d → ∃ v, valV ws k = some v ∧ Rep K F v d := fun {κ _ ws kvs k} r e => by
    obtain ⟨h1, h2⟩ := r.val (k := k)
    subst e
    cases q : dVal kvs k with
    | none => rw [h1 q]; exact ⟨rfl, fun d z => by cases z⟩
    | some d =>
      obtain ⟨v, e2, r2⟩ := h2 d q
      rw [e2]
      exact ⟨rfl, fun d z => by cases z; exact ⟨v, rfl, r2⟩⟩
  cases c with
  | lst ds => cases h
  | ins C lay xs => cases h
  | dctN kvs => cases h
  | dct kvs =>
    obtain ⟨ws, rfl, r⟩ := hc
    cases hk : k.key with
    | none => simp [dget, Ct.d, hk] at h
    | some kk =>
      have h : dVal kvs kk = od := by simpa [dget, Ct.d, hk] using h
      rw [key_rep ry hk]
      exact ⟨_, .inl ⟨_, _, ho, rfl, rfl⟩, fin r h⟩
  | dctT kvs =>
    obtain ⟨ws, rfl, r⟩ := hc
    cases hk : k.keys with
    | none => simp [dget, Ct.d, hk] at h
    | some kk =>
      have h : dVal kvs kk = od := by simpa [dget, Ct.d, hk] using h
      obtain ⟨b, rfl, hb⟩ := keys_rep ry hk
      exact ⟨_, .inr ⟨_, _, b, ho, rfl, e.on hb, rfl⟩, fin r h⟩
/-- a frozen dict is such an object -/
theorem dict_ct {a : V} {d k : D} {od : Option D} (r : Rep K F a d) (h : dget d k = some od) : ∃ p o c, a = .ref p ∧ F p = some o ∧ CtR K F p o c ∧ c.d = d := by
  cases d with
  | dict kvs => obtain ⟨p, ws, rfl, hp, r⟩ := r.dict_inv; exact ⟨p, _, .dct kvs, rfl, hp, ⟨ws, rfl, r⟩, rfl⟩
  | dictT kvs => obtain ⟨p, ws, rfl, hp, r⟩ := r.dictT_inv; exact ⟨p, _, .dctT kvs, rfl, hp, ⟨ws, rfl, r⟩, rfl⟩
  | _ => cases h
end
def rPutD : V → V → V → Hp → (Hp → Prop) → Prop := fun o i v H Q => ∃ a H', o = .ref a ∧ DPut H a i v H' ∧ Q H'
def rPut : V → V → V → Hp → (Hp → Prop) → Prop := fun o i v H Q => rSetL o i v H Q ∨ rPutD o i v H Q
theorem set_put {X : Cx} (hu : X.A.units + 1 < cLine) : PSet X rPut := by
  intro pins s σ H o i v ov iv u Q I ro ri rv h
  rcases h with h | ⟨a, H', rfl, g, q⟩
  · exact set_list pins s σ H o i v ov iv u Q I ro ri rv h
  · obtain rfl : ov = Value.ref a := ro
    exact d_setItem hu I g ri rv fun s4 I4 => ⟨H', I4, q⟩
section
variable {X : Cx} {W : WX} {a b c e : Expr} {da db de : DE} {dt : DT} {dn : NE} {pos p : Pos}
def ofPut : Option Ct → (Ct → Prop) → Prop
  | some c, k => k c
  | none, _ => False
theorem ofPut.mono {o : Option Ct} {k k' : Ct → Prop} (hk : ∀ c, k c → k' c) (h : ofPut o k) : ofPut o k' := by
  cases o with
  | none => exact h
  | some c' => exact hk _ h
/-- slot[k] = .. , the slot's own list or dict -/
def dgSub (i : Nat) (dk : DE) : DG := fun y ρ k => isOw (gt ρ i) = true ∧ dk ρ X0 fun j ρ2 => owC (gt ρ2 i) fun b c => ofPut (ctPut c j y) fun c' => k (ρ2.set i (.ow b c'))
theorem pdg_sub {k : Nat} (i : Nat) {x : Str} (hr : Room k X.A) (hi : PD X W0 e de) (hN : X.N[i]? = some x := by rfl) (hv : Vis X.env.scope x := by first | exact Or.inl rfl | exact Or.inr (Or.inl rfl) | exact Or.inr (Or.inr rfl)) (hd : (x == ("__debug__" : Str)) = false := by decide)
    (hcd : (x == ("__classdict__" : Str)) = false := by decide) (ha : ∀ v, assign (.Subscript (.Name x p) e pos) X.env v = (do
      let ov ← holding [v] (eval (.Name x p) X.env)
      let iv ← holding [v, ov] (eval e X.env)
      standAt pos
      holding [v, ov, iv] (setItem ov iv v)
      release [v, ov, iv] []) := by intro _; rfl) :
    PDG X (.Subscript (.Name x p) e pos) (gSub (tVar i) (liftE X.K W0 de) rPut) (dgSub i de) [] := by
  refine ⟨⟨fun hk h => ⟨h.1, hi.mono.go (fun _ _ h => h) (fun j ρ h => owC.mono (fun b c h => ofPut.mono (fun c' h => hk _ h) h) h) h.2⟩⟩, pg_sub (pe_var (i := i) hN hv hd hcd) hi.run (set_put (hu_of hr)) ha, fun {B F ρ σ H v d k Q} S r h hQ => ?_⟩
  · obtain ⟨h0, h⟩ := h
    obtain ⟨q0, e0⟩ := S.isOw_ref h0
    refine ⟨_, e0, liftE.of hi.mono (Ex.refl _) S (hi.mono.go (fun _ _ h => h.elim) (fun _ _ h => h) h) fun j ρ2 h y F1 H1 e1 S1 r1 => ?_⟩
    obtain ⟨b, c, es, h⟩ := h.eq
    obtain ⟨a, ea, ⟨nf, ng, o, ho, hc⟩, _⟩ := S1.ow es
    rw [e0] at ea
    have : q0 = a := by simpa using ea
    subst this
    have rv := r.mono e1
    cases hp : ctPut c j d with
    | none => rw [hp] at h; exact h.elim
    | some c' =>
      rw [hp] at h
      have fin : ∀ o', CtR X.K F1 q0 o' c' → Q σ (upd H1 q0 o') := fun o' r' => hQ _ h F1 σ _ e1 rfl (fun _ _ => rfl) (S1.write es e0 r')
      have big : ∀ {n : Nat}, n ≤ 1000000 → n < sizeLine := fun h => by rw [sizeLine_eq]; exact Nat.lt_of_le_of_lt h (by decide)
      cases c with
      | ins C lay xs => cases hp
      | dctN kvs => cases hp
      | lst ds =>
        obtain ⟨vs, rfl, r2⟩ := hc
        cases j with
        | int n =>
          cases hx : ixN ds.length n with
          | none => simp [ctPut, hx] at hp
          | some m =>
            have hp : Ct.lst (ds.set m d) = c' := by simpa [ctPut, hx] using hp
            subst hp
            cases r1.int_inv
            exact .inl ⟨q0, vs, n, m, rfl, rfl, ho, by rw [r2.length]; exact hx, fin _ ⟨_, rfl, r2.set rv _⟩⟩
        | _ => cases hp
      | dct kvs =>
        obtain ⟨ws, rfl, r2⟩ := hc
        cases hk : j.key with
        | none => simp [ctPut, hk] at hp
        | some kk =>
          by_cases hz : kvs.length ≤ 1000000
          · have hp : Ct.dct (dPut kvs kk d) = c' := by simpa [ctPut, hk, hz] using hp
            subst hp
            rw [key_rep r1 hk]
            exact .inr ⟨q0, _, rfl, DPut.k ho (by rw [r2.length]; exact big hz), fin _ ⟨_, rfl, r2.put rv⟩⟩
          · simp [ctPut, hz] at hp
      | dctT kvs =>
        obtain ⟨ws, rfl, r2⟩ := hc
        cases hk : j.keys with
        | none => simp [ctPut, hk] at hp
        | some kk =>
          by_cases hz : kvs.length ≤ 1000000
          · have hp : Ct.dctT (dPut kvs kk d) = c' := by simpa [ctPut, hk, hz] using hp
            subst hp
            obtain ⟨b2, rfl, hb⟩ := keys_rep r1 hk
            exact .inr ⟨q0, _, rfl, DPut.t ho (S1.ex.on hb) (by rw [r2.length]; exact big hz), fin _ ⟨_, rfl, r2.put rv⟩⟩
          · simp [ctPut, hz] at hp
end
end DL
set_option Elab.async false
set_option linter.all false
set_option maxRecDepth 100000
set_option maxHeartbeats 1000000
/-! DL13: dicts read; len of a slot. -/
namespace DL
open PySem L2 Evl
variable [Tbs]
section
variable {X : Cx} {W : WX} {a b c e o : Expr} {da db de dk dd : DE} {dt : DT} {dn : NE} {pos p : Pos}
/-- d[k], the slot's own dict -/
def eGetS (i : Nat) (dk : DE) : DE := fun ρ X K => isOw (gt ρ i) = true ∧ dk ρ X fun k ρ1 => owC (gt ρ1 i) fun _ c => ∃ d, dget c.d k = some (some d) ∧ K d ρ1
theorem mono_eGetS {i : Nat} (m : MonoE dk) : MonoE (eGetS i dk) := ⟨fun hx hk h => ⟨h.1, m.go hx (fun k ρ h => owC.mono (fun b c ⟨d, h1, h2⟩ => ⟨d, h1, hk _ _ h2⟩) h) h.2⟩⟩
theorem pd_getS {k : Nat} (i : Nat) {x : Str} (hr : Room k X.A) (hb : PD X W b dk) (hs : NoSl b) (hN : X.N[i]? = some x := by rfl) (hv : Vis X.env.scope x := by first | exact Or.inl rfl | exact Or.inr (Or.inl rfl) | exact Or.inr (Or.inr rfl)) (hd : (x == ("__debug__" : Str)) = false := by decide)
    (hcd : (x == ("__classdict__" : Str)) = false := by decide) : PD X W (.Subscript (.Name x p) b pos) (eGetS i dk) := by
  refine ⟨mono_eGetS hb.mono, PE.imp (pe_dget (hu_of hr) (pe_var (i := i) hN hv hd hcd) hb.run hs) fun σ H Q ⟨B, F, ρ, S, h⟩ => ?_⟩
  obtain ⟨q0, e0⟩ := S.isOw_ref h.1
  refine ⟨_, e0, liftE.of hb.mono (Ex.refl _) S h.2 fun k ρ1 h v F1 H1 e1 S1 r1 => ?_⟩
  obtain ⟨b, c, es, d, h1, h⟩ := h.eq
  obtain ⟨a, ea, ⟨nf, ng, o, ho, hc⟩, _⟩ := S1.ow es
  rw [e0] at ea
  have : q0 = a := by simpa using ea
  subst this
  obtain ⟨ov, g, _, r⟩ := dget_ct S1.ex (.inl ho) hc r1 h1
  obtain ⟨u, rfl, ru⟩ := r d rfl
  exact ⟨q0, u, rfl, g, h u F1 H1 e1 S1 ru⟩
/-- d[k], a frozen dict -/
def eGet (dd dk : DE) : DE := fun ρ X K => dd ρ X fun c ρ1 => dk ρ1 X fun k ρ2 => ∃ d, dget c k = some (some d) ∧ K d ρ2
theorem mono_eGet (m1 : MonoE dd) (m : MonoE dk) : MonoE (eGet dd dk) := ⟨fun hx hk h => m1.go hx (fun c ρ h => m.go hx (fun k ρ ⟨d, h1, h2⟩ => ⟨d, h1, hk _ _ h2⟩) h) h⟩
theorem pd_get {k : Nat} (hr : Room k X.A) (ha : PD X W a dd) (hb : PD X W b dk) (hs : NoSl b) : PD X W (.Subscript a b pos) (eGet dd dk) := by
  refine ⟨mono_eGet ha.mono hb.mono, PE.imp (pe_dget (hu_of hr) ha.run hb.run hs) fun σ H Q ⟨B, F, ρ, S, h⟩ => ?_⟩
  refine liftE.of ha.mono (Ex.refl _) S h fun c ρ0 h v0 F0 H0 e0 S0 r0 => liftE.of hb.mono e0 S0 h fun k ρ1 h v F1 H1 e1 S1 r1 => ?_
  obtain ⟨d, h1, h3⟩ := h
  obtain ⟨q, o, ct, rfl, hq, hc, rfl⟩ := dict_ct (r0.mono e1) h1
  obtain ⟨ov, g, _, r⟩ := dget_ct S1.ex (S1.ex.rd hq) hc r1 h1
  obtain ⟨u, rfl, ru⟩ := r d rfl
  exact ⟨q, u, rfl, g, h3 u F1 H1 (e0.trans e1) S1 ru⟩
/-- k in d -/
def tInS (neg : Bool) (i : Nat) (dk : DE) : DT := fun ρ X K => dk ρ X fun k ρ1 => owC (gt ρ1 i) fun _ c => ∃ o, dget c.d k = some o ∧ K (if neg then !o.isSome else o.isSome) ρ1
def tIn (neg : Bool) (dk dd : DE) : DT := fun ρ X K => dk ρ X fun k ρ1 => dd ρ1 X fun c ρ2 => ∃ o, dget c k = some o ∧ K (if neg then !o.isSome else o.isSome) ρ2
theorem mono_tInS {n : Bool} {i : Nat} (m : MonoE dk) : MonoT (tInS n i dk) := ⟨fun hx hk h => m.go hx (fun k ρ h => owC.mono (fun b c ⟨d, h1, h2⟩ => ⟨d, h1, hk _ _ h2⟩) h) h⟩
theorem mono_tIn {n : Bool} (m1 : MonoE dk) (m : MonoE dd) : MonoT (tIn n dk dd) := ⟨fun hx hk h => m1.go hx (fun c ρ h => m.go hx (fun k ρ ⟨d, h1, h2⟩ => ⟨d, h1, hk _ _ h2⟩) h) h⟩
theorem inS_go {n : Bool} {i : Nat} {σ : L2.St} {H : Hp} {Q : Bool → Hp → Prop} (hb : PD X W b dk) (h : liftT X.K W (tInS n i dk) σ H Q) : liftE X.K W dk σ H fun y H1 => tVar i σ H1 fun x H2 => ∃ a ov, x = .ref a ∧ DGet H2 a y ov ∧ Q (if n then !ov.isSome else ov.isSome) H2 := by
  obtain ⟨B, F, ρ, S, h⟩ := h
  refine liftE.of hb.mono (Ex.refl _) S h fun k ρ1 h v F1 H1 e1 S1 r1 => ?_
  obtain ⟨b, c, es, od, h1, h⟩ := h.eq
  obtain ⟨a, ea, ⟨nf, ng, o, ho, hc⟩, _⟩ := S1.ow es
  obtain ⟨ov, g, hi, r⟩ := dget_ct S1.ex (.inl ho) hc r1 h1
  exact ⟨_, ea, a, ov, rfl, g, by rw [hi]; exact h F1 H1 e1 S1⟩
theorem in_go {n : Bool} {σ : L2.St} {H : Hp} {Q : Bool → Hp → Prop} (ha : PD X W a dd) (hb : PD X W b dk) (h : liftT X.K W (tIn n dk dd) σ H Q) : liftE X.K W dk σ H fun y H1 => liftE X.K W dd σ H1 fun x H2 => ∃ a ov, x = .ref a ∧ DGet H2 a y ov ∧ Q (if n then !ov.isSome else ov.isSome) H2 := by
  obtain ⟨B, F, ρ, S, h⟩ := h
  refine liftE.of hb.mono (Ex.refl _) S h fun k ρ1 h v F1 H1 e1 S1 r1 => liftE.of ha.mono e1 S1 h fun c ρ2 h v2 F2 H2 e2 S2 r2 => ?_
  obtain ⟨od, h1, h⟩ := h
  obtain ⟨q, o, ct, rfl, hq, hc, rfl⟩ := dict_ct r2 h1
  obtain ⟨ov, g, hi, r⟩ := dget_ct S2.ex (S2.ex.rd hq) hc (r1.mono e2) h1
  exact ⟨q, ov, rfl, g, by rw [hi]; exact h F2 H2 (e1.trans e2) S2⟩
theorem pdt_inS {k : Nat} (i : Nat) {x : Str} (hr : Room k X.A) (hb : PD X W b dk) (hN : X.N[i]? = some x := by rfl) (hv : Vis X.env.scope x := by first | exact Or.inl rfl | exact Or.inr (Or.inl rfl) | exact Or.inr (Or.inr rfl)) (hd : (x == ("__debug__" : Str)) = false := by decide)
    (hcd : (x == ("__classdict__" : Str)) = false := by decide) (h1 : behindInMarks .In (.Name x p) = false := by first | exact nobehind _ (by decide) (by decide) | rfl) : PDT X W (.Compare b [.In] [.Name x p] pos) (tInS false i dk) :=
  ⟨mono_tInS hb.mono, PT.imp (pt_cmp (pc_din (hu_of hr) hb.run (pe_var (i := i) hN hv hd hcd)) h1) fun σ H Q h => by
    obtain ⟨B, F, ρ, S, q⟩ := inS_go (n := false) hb h
    refine ⟨B, F, ρ, S, hb.mono.go (fun _ _ h => h) (fun k ρ' h v F' H' e' S' r' => ?_) q⟩
    obtain ⟨x, hx, a, ov, e2, g, q⟩ := h v F' H' e' S' r'
    exact ⟨x, hx, a, ov, e2, g, ⟨_, rfl, q⟩⟩⟩
theorem pdt_notinS {k : Nat} (i : Nat) {x : Str} (hr : Room k X.A) (hb : PD X W b dk) (hN : X.N[i]? = some x := by rfl) (hv : Vis X.env.scope x := by first | exact Or.inl rfl | exact Or.inr (Or.inl rfl) | exact Or.inr (Or.inr rfl)) (hd : (x == ("__debug__" : Str)) = false := by decide)
    (hcd : (x == ("__classdict__" : Str)) = false := by decide) (h1 : behindInMarks .NotIn (.Name x p) = false := by first | exact nobehind _ (by decide) (by decide) | rfl) : PDT X W (.Compare b [.NotIn] [.Name x p] pos) (tInS true i dk) :=
  ⟨mono_tInS hb.mono, PT.imp (pt_cmp (pc_dnotin (hu_of hr) hb.run (pe_var (i := i) hN hv hd hcd)) h1) fun σ H Q h => by
    obtain ⟨B, F, ρ, S, q⟩ := inS_go (n := true) hb h
    refine ⟨B, F, ρ, S, hb.mono.go (fun _ _ h => h) (fun k ρ' h v F' H' e' S' r' => ?_) q⟩
    obtain ⟨x, hx, a, ov, e2, g, q⟩ := h v F' H' e' S' r'
    exact ⟨x, hx, a, ov, e2, g, ⟨_, rfl, q⟩⟩⟩
theorem pdt_in {k : Nat} (hr : Room k X.A) (hb : PD X W b dk) (ha : PD X W a dd) (h1 : behindInMarks .In a = false := by first | exact nobehind _ (by decide) (by decide) | rfl) : PDT X W (.Compare b [.In] [a] pos) (tIn false dk dd) :=
  ⟨mono_tIn hb.mono ha.mono, PT.imp (pt_cmp (pc_din (hu_of hr) hb.run ha.run) h1) fun σ H Q h => by
    obtain ⟨B, F, ρ, S, q⟩ := in_go (n := false) ha hb h
    refine ⟨B, F, ρ, S, hb.mono.go (fun _ _ h => h) (fun k ρ' h v F' H' e' S' r' => ?_) q⟩
    obtain ⟨B2, F2, ρ2, S2, q2⟩ := h v F' H' e' S' r'
    refine ⟨B2, F2, ρ2, S2, ha.mono.go (fun _ _ h => h) (fun k ρ' h v F' H' e' S' r' => ?_) q2⟩
    obtain ⟨a, ov, e2, g, q⟩ := h v F' H' e' S' r'
    exact ⟨a, ov, e2, g, ⟨_, rfl, q⟩⟩⟩
theorem pdt_notin {k : Nat} (hr : Room k X.A) (hb : PD X W b dk) (ha : PD X W a dd) (h1 : behindInMarks .NotIn a = false := by first | exact nobehind _ (by decide) (by decide) | rfl) : PDT X W (.Compare b [.NotIn] [a] pos) (tIn true dk dd) :=
  ⟨mono_tIn hb.mono ha.mono, PT.imp (pt_cmp (pc_dnotin (hu_of hr) hb.run ha.run) h1) fun σ H Q h => by
    obtain ⟨B, F, ρ, S, q⟩ := in_go (n := true) ha hb h
    refine ⟨B, F, ρ, S, hb.mono.go (fun _ _ h => h) (fun k ρ' h v F' H' e' S' r' => ?_) q⟩
    obtain ⟨B2, F2, ρ2, S2, q2⟩ := h v F' H' e' S' r'
    refine ⟨B2, F2, ρ2, S2, ha.mono.go (fun _ _ h => h) (fun k ρ' h v F' H' e' S' r' => ?_) q2⟩
    obtain ⟨a, ov, e2, g, q⟩ := h v F' H' e' S' r'
    exact ⟨a, ov, e2, g, ⟨_, rfl, q⟩⟩⟩
/-- len of the slot's own list -/
def eLenS (i : Nat) : DE := fun ρ _ K => owL (gt ρ i) fun _ ds => ds.length ≤ 1000000 ∧ K (.int ds.length) ρ
theorem pd_lenS (i : Nat) {x : Str} {p2 : Pos} (hg : Gl X "len") (hm : X.mg "len" = none) (hN : X.N[i]? = some x := by rfl) (hv : Vis X.env.scope x := by first | exact Or.inl rfl | exact Or.inr (Or.inl rfl) | exact Or.inr (Or.inr rfl)) (hd : (x == ("__debug__" : Str)) = false := by decide)
    (hcd : (x == ("__classdict__" : Str)) = false := by decide) (hse : starEach [.Name x p2] X.env = (false, eval (.Name x p2) X.env) :: starEach [] X.env := by rfl) (hpl : (backTo pos (starEach [] X.env)).any (·.1) = false := by rfl) :
    PD X W (.Call (.Name "len" p) [.Name x p2] [] pos) (eLenS i) := by
  refine ⟨⟨fun hx hk h => owL.mono (fun b ds h => ⟨h.1, hk _ _ h.2⟩) h⟩, PE.imp (pe_callB call_len hg hm rfl (pa_cons (pe_var (i := i) hN hv hd hcd) pa_nil hse) (by decide) (by decide) hse hpl) fun σ H Q ⟨B, F, ρ, S, h⟩ => ?_⟩
  obtain ⟨b, ds, e, hz, h⟩ := h.eq
  obtain ⟨q, vs, e1, hq, r⟩ := S.lstAt e
  refine ⟨_, e1, _, ds.length, rfl, .inl ⟨vs, .inl (.inl hq), by rw [r.length]⟩, h _ F H (Ex.refl _) S (.int _)⟩
end
end DL
set_option Elab.async false
set_option linter.all false
set_option maxRecDepth 100000
set_option maxHeartbeats 1000000
/-! DL14: for .. in d.items(), the keys tuples. -/
namespace DL
open PySem L2 Evl PySem.Spec PyProof.Rows
variable [Tbs]
section
variable {X : Cx} {pins : List (Addr × Obj)} {σ : L2.St} {H : Hp} {s : Shared} {d : Addr} {o : Obj}
theorem frzT2 {kvs : List (List Key × V)} (I : Inv X pins σ H s) (h : H d = some (.frz o (.dT kvs))) :
    (d == sysModules) = false ∧ s.heap.get? d = some o ∧ o.ExactDict ∧ ∃ (es : Array DictEntry) (ep : Nat), o.data = .dict es ep ∧ es.size = kvs.length ∧
      ∀ (i : Nat) (k : List Key) (v : V), kvs[i]? = some (k, v) → ∃ (en : DictEntry) (q : Addr), es[i]? = some en ∧ en.key = .ref q ∧ H q = some (.tup (k.map kV)) ∧ RelV v en.val := by
  obtain ⟨hd, z, hs, xs, pr, o', es, ep, ho, hx, hdt, he, _⟩ := I.hok d _ h
  rw [hd] at ho
  cases ho
  refine ⟨hs, hd, hx, es, ep, hdt, ?_, fun i k v e => ?_⟩
  · have l1 : es.size = xs.length := by rw [← Array.length_toList, he, List.length_map]
    have l2 : kvs.length = xs.length := Paired.length pr
    omega
  · obtain ⟨b, hb, e1, e2, e3⟩ := paired_get pr e
    have q := entry_at he i
    rw [hb] at q
    exact ⟨_, b.2.1, q, rfl, e2, e3⟩
theorem frzN {ws : NW} (I : Inv X pins σ H s) (h : H d = some (.frz o (ND d ws))) :
    (d == sysModules) = false ∧ s.heap.get? d = some o ∧ o.ExactDict ∧ ∃ (es : Array DictEntry) (ep : Nat), o.data = .dict es ep ∧ es.size = ws.length ∧
      ∀ (i : Nat) (k : NestedKey) (q : Addr) (v : V), ws[i]? = some (k, q, v) → ∃ (en : DictEntry), es[i]? = some en ∧ en.key = .ref q ∧ RelV v en.val := by
  obtain ⟨hd, hob⟩ := (show ObjOk X.prog X.w H s.heap d (.frz o (ND d ws)) from I.hok d _ h)
  obtain ⟨⟨hs, z, xs, pr, _, o', es, ep, ho, hx, hdt, he⟩, _, _⟩ := (show ObjOk X.prog X.w H s.heap d (.ext (NdOk d ws)) from hob)
  rw [hd] at ho
  cases ho
  have he := he X.prog X.w
  refine ⟨hs, hd, hx, es, ep, hdt, ?_, fun i k q v e => ?_⟩
  · have l1 : es.size = xs.length := by rw [← Array.length_toList, he, List.length_map]
    have l2 : ws.length = xs.length := Paired.length pr
    omega
  · obtain ⟨b, hb, e1, e2, e3⟩ := paired_get pr e
    have q2 := entry_at he i
    rw [hb] at q2
    have e2 : q = b.2.1 := e2
    exact ⟨_, q2, by show Value.ref b.2.1 = _; rw [e2], e3⟩
/-- the pairs of the locked dict, each a new tuple of the key's own tuple and the value -/
def Itit (d : Addr) (o : Obj) (kvs : List (List Key × V)) : It :=
  ⟨fun i H => H d = some (.frz o (.dT kvs)) ∧ i < kvs.length, fun i H x H' => ∃ T k v q, kvs[i]? = some (k, v) ∧ x = .ref T ∧ H q = some (.tup (k.map kV)) ∧ H T = none ∧ H' = upd H T (.tup [.ref q, v]), fun i H => H d = some (.frz o (.dT kvs)) ∧ kvs.length ≤ i⟩
def Itin (d : Addr) (o : Obj) (ws : NW) : It :=
  ⟨fun i H => H d = some (.frz o (ND d ws)) ∧ i < ws.length, fun i H x H' => ∃ T k q v, ws[i]? = some (k, q, v) ∧ x = .ref T ∧ H T = none ∧ H' = upd H T (.tup [.ref q, v]), fun i H => H d = some (.frz o (ND d ws)) ∧ ws.length ≤ i⟩
end
section
variable {P : Program} {w : World} {K : PySem.W.Frag} {d : Addr} {o : Obj} {es : Array DictEntry} {ep : Nat}
theorem turn_itemsT {kvs : List (List Key × V)} {elts : List Expr} {kk : Nat} {tpos : Pos} (it : Addr) (hod : o.data = .dict es ep) :
    Turn P w K (.Tuple elts kk tpos) (Itit d o kvs) [it] it (fun i h => ∃ ok ov, IsItemIter h it d i kvs.length ep ok ov) where
  mem := by simp
  obj := fun i h st b hb => by
    have e : b = it := by simpa using hb
    subst e
    obtain ⟨ok, ov, e⟩ := st
    exact ⟨_, e, fun v z => nomatch z⟩
  keep := fun i h h' st k => let ⟨ok, ov, e⟩ := st; ⟨ok, ov, k it (by simp) _ e⟩
  item := by
    intro X hP hw hK hc i pins s σ H E I hf st hg
    subst hP hw hK
    obtain ⟨hd, hi⟩ := hg
    obtain ⟨hs, hgd, hx, es', ep', hdt, hsz, ent⟩ := frzT2 I hd
    obtain ⟨rfl, rfl⟩ := dict_ep hod hdt
    obtain ⟨⟨k, v⟩, hkv⟩ : ∃ p, kvs[i]? = some p := ⟨kvs[i], List.getElem?_eq_getElem hi⟩
    obtain ⟨en, q, hen, hkey, hq, rv⟩ := ent i k v hkv
    obtain ⟨ok, ov, he⟩ := st
    rw [← hsz] at he
    have hlt : it < s.heap.objs.size := Heap.lt_size he
    have hie : i < es'.size := by rw [hsz]; exact hi
    have hen2 : es'[i] = en := by
      rw [Array.getElem?_eq_getElem hie] at hen
      simpa using hen
    refine wpAny_pyNext_items_item_raw he ⟨o, hgd, hx, hdt⟩ hie fun h' ho hT hz hk => ?_
    rw [hen2] at ho hT
    refine ⟨_, rfl, wpAny_letOwnedTupleGo_items (s := { s with heap := h' }) ho fun h'' he' sb => ?_⟩
    have hT2 : h''.get? s.heap.objs.size = some { cls := .type "tuple", data := .seq #[en.key, en.val] } := (sb.2 _ (Nat.ne_of_gt hlt)).trans hT
    have new : ObjOk X.prog X.w (upd H s.heap.objs.size (.tup [.ref q, v])) h'' s.heap.objs.size (.tup [.ref q, v]) :=
      ⟨by show 2 ≤ sizeLine; decide, [en.key, en.val], .cons hkey (.cons rv .nil), ⟨_, hT2, rfl, _, rfl⟩⟩
    have I1 : Inv X pins σ (upd H s.heap.objs.size (.tup [.ref q, v])) { s with heap := h'' } :=
      I.turnedNew (t' := s.toks) (ch := [it]) (fun b ob hb e => (sb.2 b (by simpa using hb)).trans (hk b ob (by simpa using hb) e)) hf (Nat.le_refl _) new
    refine ⟨.ref s.heap.objs.size, _, I1, rfl, ⟨_, k, v, q, hkv, rfl, hq, I.hok.fresh (Nat.le_refl _), rfl⟩, ⟨en.key, en.val, ?_⟩, fun b hb => ?_⟩
    · rw [← hsz]; exact he'
    · have e : b = it := by simpa using hb
      rw [e, upd_ne (Nat.ne_of_lt hlt)]
      exact (hf it (by simp)).1
  done := by
    intro X hP hw hK hc i pins s σ H E I hf st hg
    subst hP hw hK
    obtain ⟨hd, hi⟩ := hg
    obtain ⟨f0, f1, f2, f3, f4, f5⟩ := hf it (by simp)
    obtain ⟨hs, hgd, hx, es', ep', hdt, hsz, ent⟩ := frzT2 I hd
    obtain ⟨rfl, rfl⟩ := dict_ep hod hdt
    obtain ⟨ok, ov, he⟩ := st
    rw [← hsz] at he
    exact wpAny_pyNext_items_end_raw (I.ok.hd hc) he ⟨o, hgd, hx, hdt⟩ (by rw [hsz]; exact hi) fun h' eb => ⟨rfl, I.turned (t' := s.toks) (fun b ob hb e => eb b ob hb e) f0 f1 f3 f4 f5⟩
  self := fun A i s Q E st h => let ⟨_, _, e⟩ := st; PySem.W.kcp_self e h
theorem turn_itemsN {kvs : NW} {elts : List Expr} {kk : Nat} {tpos : Pos} (it : Addr) (hod : o.data = .dict es ep) :
    Turn P w K (.Tuple elts kk tpos) (Itin d o kvs) [it] it (fun i h => ∃ ok ov, IsItemIter h it d i kvs.length ep ok ov) where
  mem := by simp
  obj := fun i h st b hb => by
    have e : b = it := by simpa using hb
    subst e
    obtain ⟨ok, ov, e⟩ := st
    exact ⟨_, e, fun v z => nomatch z⟩
  keep := fun i h h' st k => let ⟨ok, ov, e⟩ := st; ⟨ok, ov, k it (by simp) _ e⟩
  item := by
    intro X hP hw hK hc i pins s σ H E I hf st hg
    subst hP hw hK
    obtain ⟨hd, hi⟩ := hg
    obtain ⟨hs, hgd, hx, es', ep', hdt, hsz, ent⟩ := frzN I hd
    obtain ⟨rfl, rfl⟩ := dict_ep hod hdt
    obtain ⟨⟨k, q, v⟩, hkv⟩ : ∃ p, kvs[i]? = some p := ⟨kvs[i], List.getElem?_eq_getElem hi⟩
    obtain ⟨en, hen, hkey, rv⟩ := ent i k q v hkv
    obtain ⟨ok, ov, he⟩ := st
    rw [← hsz] at he
    have hlt : it < s.heap.objs.size := Heap.lt_size he
    have hie : i < es'.size := by rw [hsz]; exact hi
    have hen2 : es'[i] = en := by
      rw [Array.getElem?_eq_getElem hie] at hen
      simpa using hen
    refine wpAny_pyNext_items_item_raw he ⟨o, hgd, hx, hdt⟩ hie fun h' ho hT hz hk => ?_
    rw [hen2] at ho hT
    refine ⟨_, rfl, wpAny_letOwnedTupleGo_items (s := { s with heap := h' }) ho fun h'' he' sb => ?_⟩
    have hT2 : h''.get? s.heap.objs.size = some { cls := .type "tuple", data := .seq #[en.key, en.val] } := (sb.2 _ (Nat.ne_of_gt hlt)).trans hT
    have new : ObjOk X.prog X.w (upd H s.heap.objs.size (.tup [.ref q, v])) h'' s.heap.objs.size (.tup [.ref q, v]) :=
      ⟨by show 2 ≤ sizeLine; decide, [en.key, en.val], .cons hkey (.cons rv .nil), ⟨_, hT2, rfl, _, rfl⟩⟩
    have I1 : Inv X pins σ (upd H s.heap.objs.size (.tup [.ref q, v])) { s with heap := h'' } :=
      I.turnedNew (t' := s.toks) (ch := [it]) (fun b ob hb e => (sb.2 b (by simpa using hb)).trans (hk b ob (by simpa using hb) e)) hf (Nat.le_refl _) new
    refine ⟨.ref s.heap.objs.size, _, I1, rfl, ⟨_, k, q, v, hkv, rfl, I.hok.fresh (Nat.le_refl _), rfl⟩, ⟨en.key, en.val, ?_⟩, fun b hb => ?_⟩
    · rw [← hsz]; exact he'
    · have e : b = it := by simpa using hb
      rw [e, upd_ne (Nat.ne_of_lt hlt)]
      exact (hf it (by simp)).1
  done := by
    intro X hP hw hK hc i pins s σ H E I hf st hg
    subst hP hw hK
    obtain ⟨hd, hi⟩ := hg
    obtain ⟨f0, f1, f2, f3, f4, f5⟩ := hf it (by simp)
    obtain ⟨hs, hgd, hx, es', ep', hdt, hsz, ent⟩ := frzN I hd
    obtain ⟨rfl, rfl⟩ := dict_ep hod hdt
    obtain ⟨ok, ov, he⟩ := st
    rw [← hsz] at he
    exact wpAny_pyNext_items_end_raw (I.ok.hd hc) he ⟨o, hgd, hx, hdt⟩ (by rw [hsz]; exact hi) fun h' eb => ⟨rfl, I.turned (t' := s.toks) (fun b ob hb e => eb b ob hb e) f0 f1 f3 f4 f5⟩
  self := fun A i s Q E st h => let ⟨_, _, e⟩ := st; PySem.W.kcp_self e h
end
/-- the keys ints and texts, or tuples of such -/
def iItemsB (td : TE) : TI := fun σ H R => td σ H fun x H1 => ∃ d o, x = .ref d ∧ ((∃ kvs, H1 d = some (.frz o (.dK kvs)) ∧ R (Iti d o kvs) H1) ∨ (∃ kvs, H1 d = some (.frz o (.dT kvs)) ∧ R (Itit d o kvs) H1) ∨ ∃ kvs, H1 d = some (.frz o (ND d kvs)) ∧ R (Itin d o kvs) H1)
section
variable {X : Cx} {e : Expr} {td : TE} {apos cpos : Pos}
theorem pi_itemsB {elts : List Expr} {kk : Nat} {tpos : Pos} (he : PE X e td) (hbase : attributeBase e "items" X.env (eval e X.env) = eval e X.env := by rfl) (hline : (apos.endLine == cpos.line) = true := by rfl) :
    PI X (.Tuple elts kk tpos) (.Call (.Attribute e "items" apos) [] [] cpos) (iItemsB td) := by
  refine ⟨fun pins s σ H R I h => ?_⟩
  refine wpAny_Call_method (T := "dict") (id := "dict.items") hbase rfl hline F.plainAttrs_dict F.slot_dict_items F.type_dict_items (thn (he.run pins s σ H _ I h) fun u s1 ⟨x, H1, I1, rx, d, o, ex, q⟩ => ?_)
  subst ex
  obtain rfl : u = Value.ref d := rx
  have fin : ∀ {es : Array DictEntry} {ep : Nat}, (d == sysModules) = false → s1.heap.get? d = some o → o.ExactDict → o.data = .dict es ep → (∀ I2 : Inv X pins σ H1 { s1 with heap := s1.heap.push { cls := .type "dict_items", data := .fields #[.ref d] } },
      PIE X pins σ (.Tuple elts kk tpos) R (.ref (s1.heap.push { cls := .type "dict_items", data := .fields #[.ref d] }).objs.size) { s1 with heap := (s1.heap.push { cls := .type "dict_items", data := .fields #[.ref d] }).push { cls := .type "dict_itemiterator", data := .fields #[.none, .bool false, .ref d, .int 0 0, .int es.size 0, .int ep 0, .none, .none] } }) →
      s1.TypeIs (.ref d) "dict" ∧ (∀ a, (Value.ref d) = .ref a → ∃ o, s1.heap.get? a = some o ∧ o.dict = none) ∧ wpAny (model X.prog X.w) X.A (callWith cpos (.builtin "dict.items") [.ref d] [] []) (fun x s' => wpAny (model X.prog X.w) X.A (pyIter x) (PIE X pins σ (.Tuple elts kk tpos) R) X.xe s') X.xe s1 := fun {es ep} hs hgd hx hdt k => by
    have hr : s1.heap.DictRaw d es ep := ⟨o, hgd, hx, hdt⟩
    refine ⟨hr.typeIs, fun a e2 => ?_, ?_⟩
    · cases e2
      exact ⟨o, hgd, hx.2.1⟩
    have I2 : Inv X pins σ H1 { s1 with heap := s1.heap.push { cls := .type "dict_items", data := .fields #[.ref d] } } := I1.kept (t' := s1.toks) fun b ob q => Heap.get?_push_of_some _ q
    refine Calls.callWith_builtin rfl (PySem.evalArgs_none (DT.callItems (es := es) (ep := ep) hs hr ?_))
    exact wpAny_pyIter_items_raw (d := d) ⟨_, Heap.get?_push_size _ rfl, rfl, rfl⟩ (hr.at fun o' ho' => Heap.get?_push_of_some _ ho') (k I2)
  rcases q with ⟨kvs, hd, q⟩ | ⟨kvs, hd, q⟩ | ⟨kvs, hd, q⟩
  · obtain ⟨hs, hgd, hx, es, ep, vs, hdt, hsz, kv, hm⟩ := I1.frzK hd
    exact fin hs hgd hx hdt fun I2 => pi_one (tk := s1.toks) I2 _ (turn_items _ hdt) ⟨.none, .none, by rw [hsz]; exact Heap.get?_push_size _ rfl⟩ q
  · obtain ⟨hs, hgd, hx, es, ep, hdt, hsz, ent⟩ := frzT2 I1 hd
    exact fin hs hgd hx hdt fun I2 => pi_one (tk := s1.toks) I2 _ (turn_itemsT _ hdt) ⟨.none, .none, by rw [hsz]; exact Heap.get?_push_size _ rfl⟩ q
  · obtain ⟨hs, hgd, hx, es, ep, hdt, hsz, ent⟩ := frzN I1 hd
    exact fin hs hgd hx hdt fun I2 => pi_one (tk := s1.toks) I2 _ (turn_itemsN _ hdt) ⟨.none, .none, by rw [hsz]; exact Heap.get?_push_size _ rfl⟩ q
end
end DL
set_option Elab.async false
set_option linter.all false
set_option maxRecDepth 100000
set_option maxHeartbeats 1000000
/-! DL15: loops over dicts: the dict is locked meanwhile. -/
namespace DL
open PySem L2 Evl
variable [Tbs]
def Base.lk (B : Base) (d : Addr) (o : HO) : Base := ⟨upd B.G d o, B.F0, B.H0, B.s0⟩
theorem isD.mut {u : HO} (h : isD u) : Mut (some u) := by
  cases u <;> first | trivial | exact h.elim
def keyD : Key → D
  | .inl i => .int i
  | .inr x => .str x
def dItems : D → Option (List D)
  | .dict kvs => some (kvs.map fun p => .tuple [keyD p.1, p.2])
  | .dictT kvs => some (kvs.map fun p => .tuple [.tuple (p.1.map keyD), p.2])
  | .dictN kvs => some (kvs.map fun p => .tuple [nkD p.1, p.2])
  | _ => Option.none
def dKeys : D → Option (List D)
  | .dict kvs => some (kvs.map fun p => keyD p.1)
  | .dictT kvs => some (kvs.map fun p => .tuple (p.1.map keyD))
  | _ => Option.none
def ofS {α : Type} : Option α → (α → Prop) → Prop
  | some x, k => k x
  | none, _ => False
theorem ofS.eq {α : Type} {o : Option α} {k : α → Prop} (h : ofS o k) : ∃ x, o = some x ∧ k x := by
  cases o with
  | none => exact h.elim
  | some x => exact ⟨x, rfl, h⟩
theorem ofS.mono {α : Type} {o : Option α} {k k' : α → Prop} (hk : ∀ x, k x → k' x) (h : ofS o k) : ofS o k' := by
  cases o with
  | none => exact h
  | some x => exact hk _ h
section
variable {K : PySem.W.Frag} {B : Base} {F F' G0 F0 : Hp} {ρ ρ' : Env} {σ σ' : L2.St} {H H' : Hp} {d : Addr} {u : HO} {o : Obj}
theorem OwR.up {a : Addr} {c : Ct} {w : HO} (h : OwR K B F H a c) (q : a ≠ d) : OwR K B F (upd H d w) a c := by
  obtain ⟨x, hx, hc⟩ := h.ob
  exact ⟨h.nf, h.ng, x, by rw [upd_ne q]; exact hx, hc⟩
theorem St.lock (S : St K B F ρ σ H) (hF : F d = some u) (hD : isD u) : St K (B.lk d (.frz o u)) F ρ σ (upd H d (.frz o u)) := by
  have nT : ¬ ∃ p ∈ Tbs.T, p.1 = d := fun ⟨p, hp, e⟩ => by rw [← e, (S.tb p hp).2.1] at hF; cases hF
  have oT : ∀ b w, H b = some w → isTb w → b ≠ d := fun b w hb ht z => by
    subst z
    rcases S.ex _ u hF with z | ⟨_, o', z⟩
    · rw [hb] at z; exact hD.noTb (by rw [show u = w by simpa using z.symm]; exact ht)
    · rw [hb] at z; exact notb_frz (by rw [show HO.frz o' u = w by simpa using z.symm]; exact ht)
  refine ⟨fun a w h => ?_, fun a w h => ?_, S.new, S.ge, S.thr.upd fun _ z => (nomatch z), S.len, fun i => ?_, S.own, S.tb.go (fun b w hb ht => by rw [upd_ne (oT b w hb ht)]; exact hb) (fun _ _ _ z => z) fun b ps hb z => by
    show upd B.G d _ b = none
    rw [upd_ne (oT b _ hb (.inl ⟨_, rfl⟩))]; exact z⟩
  · by_cases q : a = d
    · subst q
      rw [hF] at h
      cases h
      exact .inr ⟨hD, o, upd_same⟩
    · rw [upd_ne q]; exact S.ex a w h
  · have h : upd B.G d (.frz o u) a = some w := h
    by_cases q : a = d
    · subst q
      rw [upd_same] at h ⊢; exact h
    · rw [upd_ne q] at h ⊢; exact S.out a w h
  · have s := S.sl i
    cases hs : ρ.getD i .un with
    | un => trivial
    | fz d => rw [hs] at s; exact s
    | ow b c =>
      rw [hs] at s
      obtain ⟨a, e1, ow, h2, h3⟩ := s
      have q : a ≠ d := fun z => by have := ow.nf; rw [z, hF] at this; cases this
      obtain ⟨x, hx, hc⟩ := ow.ob
      exact ⟨a, e1, ⟨ow.nf, by show upd B.G d _ a = none; rw [upd_ne q]; exact ow.ng, x, by rw [upd_ne q]; exact hx, hc⟩, h2, h3⟩
theorem St.unlock (S : St K (B.lk d (.frz o u)) F ρ σ H) (hF : F d = some u) (hD : isD u) (hG : ∀ w, B.G d = some w → w = u) : H d = some (.frz o u) ∧ St K B F ρ σ (upd H d u) := by
  have hd : H d = some (.frz o u) := S.out d _ (show upd B.G d _ d = _ from upd_same)
  have nt : ∀ vs, u ≠ .tup vs := fun vs z => by subst z; exact hD
  refine ⟨hd, fun a w h => ?_, fun a w h => ?_, S.new, S.ge, Thr.upd S.thr fun vs z => absurd z (nt vs), S.len, fun i => ?_, S.own, TbOk.go (S.tb.upd hd notb_frz) (fun _ _ h _ => h) (fun _ _ _ z => z) fun b ps hb z => by
    have z : upd B.G d _ b = none := z
    by_cases q : b = d
    · rw [q]
      subst q
      rw [upd_same] at z; cases z
    · rw [upd_ne q] at z; exact z⟩
  · by_cases q : a = d
    · subst q
      rw [hF] at h
      cases h
      exact .inl upd_same
    · rw [upd_ne q]; exact S.ex a w h
  · by_cases q : a = d
    · subst q
      rw [hG w h, upd_same]
    · rw [upd_ne q]; exact S.out a w (show upd B.G d _ a = _ by rw [upd_ne q]; exact h)
  · have s := S.sl i
    cases hs : ρ.getD i .un with
    | un => trivial
    | fz d => rw [hs] at s; exact s
    | ow b c =>
      rw [hs] at s
      obtain ⟨a, e1, ow, h2, h3⟩ := s
      have q : a ≠ d := fun z => by have := ow.nf; rw [z, hF] at this; cases this
      have ng : upd B.G d (.frz o u) a = none := ow.ng
      rw [upd_ne q] at ng
      obtain ⟨x, hx, hc⟩ := ow.ob
      exact ⟨a, e1, ⟨ow.nf, ng, x, by rw [upd_ne q]; exact hx, hc⟩, h2, h3⟩
/-- a tuple that stands may be frozen -/
theorem St.frzTup (S : St K B F ρ σ H) {q : Addr} {vs : List V} (h : H q = some (.tup vs)) : ∃ F', Ex F F' ∧ St K B F' ρ σ H ∧ F' q = some (.tup vs) := by
  cases hf : F q with
  | some u =>
    rcases S.ex q u hf with z | ⟨_, o, z⟩
    · rw [h] at z; cases z
      exact ⟨F, Ex.refl _, S, hf⟩
    · rw [h] at z; cases z
  | none =>
    obtain ⟨e, S'⟩ := S.freezeAt h hf (S.n0 h) notb_tup fun i hi z => by
      cases hs : ρ.getD i .un with
      | un => rw [hs] at hi; cases hi
      | fz d => rw [hs] at hi; cases hi
      | ow b c =>
        obtain ⟨a, e1, ⟨_, _, x, hx, hc⟩, _⟩ := S.ow hs
        rw [z] at e1
        have : q = a := by simpa using e1
        subst this
        rw [h] at hx
        exact hc.noTup vs (by simpa using hx.symm)
    exact ⟨_, e, S', upd_same⟩
theorem keyD_rep (k : Key) : Rep K F (kV k) (keyD k) := by
  cases k with
  | inl i => exact .int i
  | inr x => exact .str x
theorem keysD_rep : ∀ (k : List Key), Reps K F (k.map kV) (k.map keyD)
  | [] => .nil
  | k :: ks => .cons (keyD_rep k) (keysD_rep ks)
theorem yld_itemsK {kvs : List (Key × V)} {ds : List (Key × D)} (g : G0 d = some (.frz o (.dK kvs))) (r : KReps K F0 kvs ds) : Yld K G0 F0 (Iti d o kvs) (ds.map fun p => .tuple [keyD p.1, p.2]) := fun B F ρ σ H eg e S => by
  have hH : H d = some (.frz o (.dK kvs)) := S.out _ _ (eg _ _ g)
  refine ⟨fun i hi => ⟨hH, by rw [r.length]; simpa using hi⟩, ⟨hH, by rw [r.length]; simp⟩, fun i x v H' hx y => ?_⟩
  obtain ⟨T, k, w, hk, rfl, hT, rfl⟩ := y
  rw [List.getElem?_map] at hx
  cases hp : ds[i]? with
  | none => rw [hp] at hx; cases hx
  | some p =>
    obtain ⟨k', x'⟩ := p
    rw [hp] at hx
    have hx : D.tuple [keyD k', x'] = x := by simpa using hx
    subst hx
    obtain ⟨rfl, rw'⟩ := r.get i k w k' x' hk hp
    obtain ⟨e1, S1⟩ := S.alloc (o := .tup [kV k, w]) hT
    exact ⟨_, e1, S1, .tup upd_same (.cons (keyD_rep k) (.cons ((rw'.mono e).mono e1) .nil))⟩
theorem yld_itemsT {kvs : List (List Key × V)} {ds : List (List Key × D)} (g : G0 d = some (.frz o (.dT kvs))) (r : KReps K F0 kvs ds) : Yld K G0 F0 (Itit d o kvs) (ds.map fun p => .tuple [.tuple (p.1.map keyD), p.2]) := fun B F ρ σ H eg e S => by
  have hH : H d = some (.frz o (.dT kvs)) := S.out _ _ (eg _ _ g)
  refine ⟨fun i hi => ⟨hH, by rw [r.length]; simpa using hi⟩, ⟨hH, by rw [r.length]; simp⟩, fun i x v H' hx y => ?_⟩
  obtain ⟨T, k, w, q, hk, rfl, hq, hT, rfl⟩ := y
  rw [List.getElem?_map] at hx
  cases hp : ds[i]? with
  | none => rw [hp] at hx; cases hx
  | some p =>
    obtain ⟨k', x'⟩ := p
    rw [hp] at hx
    have hx : D.tuple [.tuple (k'.map keyD), x'] = x := by simpa using hx
    subst hx
    obtain ⟨rfl, rw'⟩ := r.get i k w k' x' hk hp
    obtain ⟨F1, e1, S1, hq1⟩ := S.frzTup hq
    obtain ⟨e2, S2⟩ := S1.alloc (o := .tup [.ref q, w]) hT
    exact ⟨_, e1.trans e2, S2, .tup upd_same (.cons (.tup (e2 _ _ hq1) (keysD_rep k)) (.cons (((rw'.mono e).mono e1).mono e2) .nil))⟩
theorem yld_itemsN {kvs : NW} {ds : List (NestedKey × D)} (g : G0 d = some (.frz o (ND d kvs))) (r : NReps K F0 kvs ds) : Yld K G0 F0 (Itin d o kvs) (ds.map fun p => .tuple [nkD p.1, p.2]) := fun B F ρ σ H eg e S => by
  have hH : H d = some (.frz o (ND d kvs)) := S.out _ _ (eg _ _ g)
  refine ⟨fun i hi => ⟨hH, by rw [r.length]; simpa using hi⟩, ⟨hH, by rw [r.length]; simp⟩, fun i x v H' hx y => ?_⟩
  obtain ⟨T, k, q, w, hk, rfl, hT, rfl⟩ := y
  rw [List.getElem?_map] at hx
  cases hp : ds[i]? with
  | none => rw [hp] at hx; cases hx
  | some p =>
    obtain ⟨k', x'⟩ := p
    rw [hp] at hx
    have hx : D.tuple [nkD k', x'] = x := by simpa using hx
    subst hx
    obtain ⟨⟨rfl, _, _⟩, rk, rw'⟩ := r.get i k q w k' x' hk hp
    obtain ⟨e2, S2⟩ := S.alloc (o := .tup [.ref q, w]) hT
    exact ⟨_, e2, S2, .tup upd_same (.cons ((rk.mono e).mono e2) (.cons ((rw'.mono e).mono e2) .nil))⟩
theorem yld_keysK {kvs : List (Key × V)} {ds : List (Key × D)} (g : G0 d = some (.frz o (.dK kvs))) (r : KReps K F0 kvs ds) : Yld K G0 F0 (Itk d o kvs) (ds.map fun p => keyD p.1) := fun B F ρ σ H eg e S => by
  have hH : H d = some (.frz o (.dK kvs)) := S.out _ _ (eg _ _ g)
  refine ⟨fun i hi => ⟨hH, by rw [r.length]; simpa using hi⟩, ⟨hH, by rw [r.length]; simp⟩, fun i x v H' hx y => ?_⟩
  obtain ⟨rfl, k, w, hk, rfl⟩ := y
  rw [List.getElem?_map] at hx
  cases hp : ds[i]? with
  | none => rw [hp] at hx; cases hx
  | some p =>
    obtain ⟨k', x'⟩ := p
    rw [hp] at hx
    have hx : keyD k' = x := by simpa using hx
    subst hx
    obtain ⟨rfl, rw'⟩ := r.get i k w k' x' hk hp
    exact ⟨_, Ex.refl _, S, keyD_rep k⟩
theorem yld_keysT {kvs : List (List Key × V)} {ds : List (List Key × D)} (g : G0 d = some (.frz o (.dT kvs))) (r : KReps K F0 kvs ds) : Yld K G0 F0 (Itkt d o kvs) (ds.map fun p => .tuple (p.1.map keyD)) := fun B F ρ σ H eg e S => by
  have hH : H d = some (.frz o (.dT kvs)) := S.out _ _ (eg _ _ g)
  refine ⟨fun i hi => ⟨hH, by rw [r.length]; simpa using hi⟩, ⟨hH, by rw [r.length]; simp⟩, fun i x v H' hx y => ?_⟩
  obtain ⟨rfl, k, w, q, hk, rfl, hq⟩ := y
  rw [List.getElem?_map] at hx
  cases hp : ds[i]? with
  | none => rw [hp] at hx; cases hx
  | some p =>
    obtain ⟨k', x'⟩ := p
    rw [hp] at hx
    have hx : D.tuple (k'.map keyD) = x := by simpa using hx
    subst hx
    obtain ⟨rfl, rw'⟩ := r.get i k w k' x' hk hp
    obtain ⟨F1, e1, S1, hq1⟩ := S.frzTup hq
    exact ⟨_, e1, S1, .tup hq1 (keysD_rep k)⟩
end
/-! ### the slot's dict, locked -/
def Locked (B : Base) (F : Hp) (σ : L2.St) (i : Nat) : Prop := ∃ d o u, σ[i]? = some (some (.ref d)) ∧ B.G d = some (.frz o u) ∧ F d = some u ∧ isD u
def liftIL (K : PySem.W.Frag) (W : WX) (i : Nat) (di : DI) : TI := fun σ H R => ∃ B F ρ, St K B F ρ σ H ∧ Locked B F σ i ∧ di ρ (xl K W B F σ) fun ds ρ' => ∀ J B' F' H', B.Le B' → Ex F F' → St K B' F' ρ' σ H' → Yld K B'.G F' J ds → R J H'
def liftSL (K : PySem.W.Frag) (W : WX) (i : Nat) (ds : DS) : TS := fun D σ H => ∃ B F ρ, St K B F ρ σ H ∧ Locked B F σ i ∧ ds ρ (postL K W B F D)
def liftNL (K : PySem.W.Frag) (W : WX) (i : Nat) (de : NE) : TE := fun σ H Q => ∃ B F ρ, St K B F ρ σ H ∧ Locked B F σ i ∧ de ρ (xl K W B F σ) fun c ρ' => ∀ v F' H', Ex F F' → St K B F' ρ' σ H' → NwR K B F' ρ' σ H' v c → Q v H'
structure PDIL (X : Cx) (W : WX) (i : Nat) (tg e : Expr) (di : DI) : Prop where
  mono : MonoI di
  run : PI X tg e (liftIL X.K W i di)
def isDk : Sl → Prop
  | .fz (.dict _) => True
  | .fz (.dictT _) => True
  | .fz (.dictN _) => True
  | _ => False
def dLk (i : Nat) (s : DS) : DS := fun ρ P => isDk (gt ρ i) ∧ s ρ { P with ex := fun _ _ => False }
def nLk (i : Nat) (s : NE) : NE := fun ρ X K => isDk (gt ρ i) ∧ s ρ X0 K
section
variable {K : PySem.W.Frag} {B : Base} {F F' : Hp} {ρ ρ' : Env} {σ σ' : L2.St} {H H' : Hp}
theorem St.dkAt (S : St K B F ρ σ H) {i : Nat} (h : isDk (gt ρ i)) : ∃ d u, σ[i]? = some (some (.ref d)) ∧ F d = some u ∧ isD u := by
  cases hs : gt ρ i with
  | un => rw [hs] at h; exact h.elim
  | ow b c => rw [hs] at h; exact h.elim
  | fz x =>
    rw [hs] at h
    obtain ⟨v, e1, r⟩ := S.fz hs
    cases x with
    | dict kvs => obtain ⟨a, ws, rfl, ha, _⟩ := r.dict_inv; exact ⟨a, _, e1, ha, trivial⟩
    | dictT kvs => obtain ⟨a, ws, rfl, ha, _⟩ := r.dictT_inv; exact ⟨a, _, e1, ha, trivial⟩
    | dictN kvs => obtain ⟨a, ws, rfl, ha, _⟩ := r.dictN_inv; exact ⟨a, _, e1, ha, ⟨a, ws, rfl⟩⟩
    | _ => exact h.elim
end
section
variable {X : Cx} {W : WX} {e elt tg it : Expr} {ds s : DS} {dn : NE} {i : Nat} {st : Stmt} {pos : Pos}
theorem PS.or {t t' : TS} (h : PS X st t) (h' : PS X st t') : PS X st (fun D σ H => t D σ H ∨ t' D σ H) := ⟨fun pins s σ H D I q => q.elim (h.run pins s σ H D I) (h'.run pins s σ H D I)⟩
theorem PE.or {t t' : TE} (h : PE X e t) (h' : PE X e t') : PE X e (fun σ H Q => t σ H Q ∨ t' σ H Q) := ⟨fun pins s σ H D I q => q.elim (h.run pins s σ H D I) (h'.run pins s σ H D I)⟩
/-- the ground of the locked, when it is locked already -/
theorem lkLe {K : PySem.W.Frag} {B : Base} {F : Hp} {ρ : Env} {σ : L2.St} {H : Hp} {d : Addr} {u : HO} {o : Obj} (S : St K B F ρ σ H) (hF : F d = some u) (hd : H d = some (.frz o u)) : B.Le (B.lk d (.frz o u)) ∧ St K (B.lk d (.frz o u)) F ρ σ H := by
  refine ⟨⟨rfl, rfl, rfl, fun a w h => ?_⟩, S.ex, fun a w h => ?_, S.new, S.ge, S.thr, S.len, fun i => ?_, S.own, S.tb.go (fun _ _ h _ => h) (fun _ _ _ z => z) fun b ps hb z => by
    show upd B.G d _ b = none
    rw [upd_ne (show b ≠ d from fun q => by subst q; rw [hb] at hd; cases hd)]; exact z⟩
  · show upd B.G d _ a = _
    by_cases q : a = d
    · subst q
      have := S.out _ _ h
      rw [hd] at this
      rw [upd_same]; exact this
    · rw [upd_ne q]; exact h
  · have h : upd B.G d (.frz o u) a = some w := h
    by_cases q : a = d
    · subst q
      rw [upd_same] at h; rw [hd]; exact h
    · rw [upd_ne q] at h; exact S.out a w h
  · have s := S.sl i
    cases hs : ρ.getD i .un with
    | un => trivial
    | fz d => rw [hs] at s; exact s
    | ow b c =>
      rw [hs] at s
      obtain ⟨a, e1, ow, h2, h3⟩ := s
      have q : a ≠ d := fun z => by have := ow.nf; rw [z, hF] at this; cases this
      exact ⟨a, e1, ⟨ow.nf, by show upd B.G d _ a = none; rw [upd_ne q]; exact ow.ng, ow.ob⟩, h2, h3⟩
theorem NwR.unlock {K : PySem.W.Frag} {B : Base} {F : Hp} {ρ : Env} {σ : L2.St} {H : Hp} {d : Addr} {u : HO} {o : HO} {v : V} {c : Ct} (hF : F d = some u) (n : NwR K (B.lk d o) F ρ σ H v c) : NwR K B F ρ σ (upd H d u) v c := by
  obtain ⟨a, rfl, ow, h0, no⟩ := n.ex
  have q : a ≠ d := fun z => by have := ow.nf; rw [z, hF] at this; cases this
  have ng : upd B.G d o a = none := ow.ng
  rw [upd_ne q] at ng
  obtain ⟨x, hx, hc⟩ := ow.ob
  exact ⟨a, rfl, ⟨ow.nf, ng, x, by rw [upd_ne q]; exact hx, hc⟩, h0, no⟩
theorem RzR.unlock {K : PySem.W.Frag} {B : Base} {F : Hp} {ρ : Env} {σ : L2.St} {H : Hp} {d : Addr} {u : HO} {o : HO} {v : V} {r : Rv} (hF : F d = some u) (n : RzR K (B.lk d o) F ρ σ H v r) : RzR K B F ρ σ (upd H d u) v r := by
  cases n with
  | d h => exact .d h
  | nw h => exact .nw (h.unlock hF)
theorem pds_lock (m : MonoS ds) (h : PS X st (liftSL X.K W i ds)) : PDS X W st (dLk i ds) := by
  refine ⟨⟨fun {ρ P P'} le q => ⟨q.1, m.go (P := { P with ex := fun _ _ => False }) (P' := { P' with ex := fun _ _ => False }) ⟨le.nx, le.rt, le.bk, le.ct, fun _ _ h => h⟩ q.2⟩⟩, PS.imp (PS.or (ps_lock h) h) fun D σ H ⟨B, F, ρ, S, hk, q⟩ => ?_⟩
  obtain ⟨d, u, e1, hF, hD⟩ := S.dkAt hk
  rcases S.ex d u hF with hH | ⟨_, o, hH⟩
  · refine .inl ⟨d, u, hH, hD.mut, fun od => ⟨B.lk d (.frz od u), F, ρ, S.lock hF hD, ⟨d, od, u, e1, show upd B.G d _ d = _ from upd_same, hF, hD⟩, m.go ?_ q⟩⟩
    have hG : ∀ w, B.G d = some w → w = u := fun w hw => by
      have := S.out _ _ hw
      rw [hH] at this
      simpa using this.symm
    exact ⟨fun ρ' h F' σ' H' e' S' => ⟨(S'.unlock (e' _ _ hF) hD hG).1, h F' σ' _ e' (S'.unlock (e' _ _ hF) hD hG).2⟩, fun r ρ' h v F' σ' H' e' S' z => ⟨(S'.unlock (e' _ _ hF) hD hG).1, h v F' σ' _ e' (S'.unlock (e' _ _ hF) hD hG).2 (z.unlock (e' _ _ hF))⟩,
      fun ρ' h F' σ' H' e' S' => ⟨(S'.unlock (e' _ _ hF) hD hG).1, h F' σ' _ e' (S'.unlock (e' _ _ hF) hD hG).2⟩, fun ρ' h F' σ' H' e' S' => ⟨(S'.unlock (e' _ _ hF) hD hG).1, h F' σ' _ e' (S'.unlock (e' _ _ hF) hD hG).2⟩, fun x ρ' h => h.elim⟩
  · obtain ⟨l, S2⟩ := lkLe S hF hH
    refine .inr ⟨B.lk d (.frz o u), F, ρ, S2, ⟨d, o, u, e1, show upd B.G d _ d = _ from upd_same, hF, hD⟩, m.go ?_ q⟩
    exact ⟨fun ρ' h F' σ' H' e' S' => h F' σ' _ e' (S'.weaken l), fun r ρ' h v F' σ' H' e' S' z => h v F' σ' _ e' (S'.weaken l) (z.weaken l), fun ρ' h F' σ' H' e' S' => h F' σ' _ e' (S'.weaken l), fun ρ' h F' σ' H' e' S' => h F' σ' _ e' (S'.weaken l), fun x ρ' h => h.elim⟩
theorem pn_lock (m : MonoN dn) (h : PE X e (liftNL X.K W i dn)) : PN X W e (nLk i dn) := by
  refine ⟨⟨fun hx hk q => ⟨q.1, m.go (fun _ _ h => h) hk q.2⟩⟩, PE.imp (PE.or (pe_lock h) h) fun σ H Q ⟨B, F, ρ, S, hk, q⟩ => ?_⟩
  obtain ⟨d, u, e1, hF, hD⟩ := S.dkAt hk
  rcases S.ex d u hF with hH | ⟨_, o, hH⟩
  · refine .inl ⟨d, u, hH, hD.mut, fun od => ⟨B.lk d (.frz od u), F, ρ, S.lock hF hD, ⟨d, od, u, e1, show upd B.G d _ d = _ from upd_same, hF, hD⟩, m.go (fun _ _ h => h.elim) ?_ q⟩⟩
    have hG : ∀ w, B.G d = some w → w = u := fun w hw => by
      have := S.out _ _ hw
      rw [hH] at this
      simpa using this.symm
    exact fun r ρ' h v F' H' e' S' z => ⟨(S'.unlock (e' _ _ hF) hD hG).1, h v F' _ e' (S'.unlock (e' _ _ hF) hD hG).2 (z.unlock (e' _ _ hF))⟩
  · obtain ⟨l, S2⟩ := lkLe S hF hH
    refine .inr ⟨B.lk d (.frz o u), F, ρ, S2, ⟨d, o, u, e1, show upd B.G d _ d = _ from upd_same, hF, hD⟩, m.go (fun _ _ h => h.elim) ?_ q⟩
    exact fun r ρ' h v F' H' e' S' z => h v F' _ e' (S'.weaken l) (z.weaken l)
end
end DL
set_option Elab.async false
set_option linter.all false
set_option maxRecDepth 100000
set_option maxHeartbeats 1000000
/-! DL16: for and [..] over dicts. -/
namespace DL
open PySem L2 Evl
variable [Tbs]
def iItV (i : Nat) : DI := fun ρ _ K => ofFz (gt ρ i) fun d => ofS (dItems d) fun ds => K ds ρ
def iKyV (i : Nat) : DI := fun ρ _ K => ofFz (gt ρ i) fun d => ofS (dKeys d) fun ds => K ds ρ
theorem mono_iItV {i : Nat} : MonoI (iItV i) := ⟨fun hx hk h => by
  obtain ⟨d, e, h⟩ := ofFz.eq h
  unfold iItV; rw [e]; exact ofS.mono (fun _ h => hk _ _ h) h⟩
theorem mono_iKyV {i : Nat} : MonoI (iKyV i) := ⟨fun hx hk h => by
  obtain ⟨d, e, h⟩ := ofFz.eq h
  unfold iKyV; rw [e]; exact ofS.mono (fun _ h => hk _ _ h) h⟩
theorem refInj {a b : Addr} {σ : L2.St} {i : Nat} (h : σ[i]? = some (some (.ref a))) (h2 : σ[i]? = some (some (.ref b))) : a = b := by
  rw [h] at h2; simpa using h2
section
variable {X : Cx} {W : WX} {e elt tg it o : Expr} {s : DS} {da de : DE} {dt : DT} {di : DI} {dn : NE} {i : Nat} {st : Stmt} {pos p : Pos}
/-- the locked slot's dict, read -/
theorem lockedV {K : PySem.W.Frag} {B : Base} {F : Hp} {ρ : Env} {σ : L2.St} {H : Hp} {x : D} (S : St K B F ρ σ H) (L : Locked B F σ i) (e : gt ρ i = .fz x) : ∃ d o u, σ[i]? = some (some (.ref d)) ∧ H d = some (.frz o u) ∧ B.G d = some (.frz o u) ∧ F d = some u ∧ Rep K F (.ref d) x := by
  obtain ⟨d, o, u, e1, g, hF, hD⟩ := L
  obtain ⟨v, e2, r⟩ := S.fz e
  rw [e1] at e2
  have : V.ref d = v := by simpa using e2
  subst this
  exact ⟨d, o, u, e1, S.out _ _ g, g, hF, r⟩
theorem pdil_items {elts : List Expr} {kk : Nat} {tpos apos cpos : Pos} (i : Nat) {x : Str} (hN : X.N[i]? = some x := by rfl) (hv : Vis X.env.scope x := by first | exact Or.inl rfl | exact Or.inr (Or.inl rfl) | exact Or.inr (Or.inr rfl)) (hd : (x == ("__debug__" : Str)) = false := by decide)
    (hcd : (x == ("__classdict__" : Str)) = false := by decide) (hbase : attributeBase (.Name x p) "items" X.env (eval (.Name x p) X.env) = eval (.Name x p) X.env := by rfl) (hline : (apos.endLine == cpos.line) = true := by rfl) :
    PDIL X W i (.Tuple elts kk tpos) (.Call (.Attribute (.Name x p) "items" apos) [] [] cpos) (iItV i) :=
  ⟨mono_iItV, PI.imp (pi_itemsB (pe_var (i := i) hN hv hd hcd) hbase hline) fun σ H R ⟨B, F, ρ, S, L, h⟩ => by
    obtain ⟨x, e, h⟩ := ofFz.eq h
    obtain ⟨ds, e2, h⟩ := ofS.eq h
    obtain ⟨d, o, u, e1, hH, g, hF, r⟩ := lockedV S L e
    cases x with
    | dict kvs =>
      obtain ⟨a, ws, e3, ha, r⟩ := r.dict_inv
      cases e3
      rw [hF] at ha
      cases ha
      cases e2
      exact ⟨_, e1, d, o, rfl, .inl ⟨ws, hH, h _ B F H (.refl _) (Ex.refl _) S (yld_itemsK g r)⟩⟩
    | dictT kvs =>
      obtain ⟨a, ws, e3, ha, r⟩ := r.dictT_inv
      cases e3
      rw [hF] at ha
      cases ha
      cases e2
      exact ⟨_, e1, d, o, rfl, .inr (.inl ⟨ws, hH, h _ B F H (.refl _) (Ex.refl _) S (yld_itemsT g r)⟩)⟩
    | dictN kvs =>
      obtain ⟨a, ws, e3, ha, r⟩ := r.dictN_inv
      cases e3
      rw [hF] at ha
      cases ha
      cases e2
      exact ⟨_, e1, d, o, rfl, .inr (.inr ⟨ws, hH, h _ B F H (.refl _) (Ex.refl _) S (yld_itemsN g r)⟩)⟩
    | _ => cases e2⟩
theorem pdil_keys (i : Nat) {x : Str} (hN : X.N[i]? = some x := by rfl) (hv : Vis X.env.scope x := by first | exact Or.inl rfl | exact Or.inr (Or.inl rfl) | exact Or.inr (Or.inr rfl)) (hd : (x == ("__debug__" : Str)) = false := by decide)
    (hcd : (x == ("__classdict__" : Str)) = false := by decide) : PDIL X W i tg (.Name x p) (iKyV i) :=
  ⟨mono_iKyV, PI.imp (pi_keys (pe_var (i := i) hN hv hd hcd)) fun σ H R ⟨B, F, ρ, S, L, h⟩ => by
    obtain ⟨x, e, h⟩ := ofFz.eq h
    obtain ⟨ds, e2, h⟩ := ofS.eq h
    obtain ⟨d, o, u, e1, hH, g, hF, r⟩ := lockedV S L e
    cases x with
    | dict kvs =>
      obtain ⟨a, ws, e3, ha, r⟩ := r.dict_inv
      cases e3
      rw [hF] at ha
      cases ha
      cases e2
      exact ⟨_, e1, d, o, rfl, .inl ⟨ws, hH, h _ B F H (.refl _) (Ex.refl _) S (yld_keysK g r)⟩⟩
    | dictT kvs =>
      obtain ⟨a, ws, e3, ha, r⟩ := r.dictT_inv
      cases e3
      rw [hF] at ha
      cases ha
      cases e2
      exact ⟨_, e1, d, o, rfl, .inr ⟨ws, hH, h _ B F H (.refl _) (Ex.refl _) S (yld_keysT g r)⟩⟩
    | _ => cases e2⟩
theorem pds_forL {body : List Stmt} {g : TG} {dg : DG} {is : List Nat} (hp : PassesOwn (model X.prog X.w) X.A X.env X.xe) (hc : X.calm = true) (hi : PDIL X W i tg it di) (hg : PDG X tg g dg is) (hb : PDSs X W body s)
    (hs : ∀ x, foldedSetIterable it X.env x = pure x := by intro _; rfl) : PDS X W (.For tg it body [] pos) (dLk i (dFor di dg s)) :=
  pds_lock ⟨fun le h => hi.mono.go le.ex (fun ds ρ h => (mono_forL hg.mono hb.mono ds).go le h) h⟩ (PS.imp (ps_for hp hc hi.run hg.pg hb.run hs) fun D σ H ⟨B, F, ρ, S, L, h⟩ =>
    ⟨B, F, ρ, S, L, hi.mono.go ex_xl (fun ds ρ1 h J B' F1 H1 l e1 S1 Y => for_turn (tg := tg) (body := body) hg hb.mono l e1 S1 Y h) h⟩)
theorem pn_lcL {ifs : List Expr} {dg : DG} {g : TG} {is vs : List Nat} {scope : Scope} {own : List (Str × Nat)} (hc : X.calm = true) (hN : X.N.Nodup) (hi : PDIL X W i tg it di) (ok : BlkOk X.N X.env.scope scope own) (hv : own.map (·.2) = vs)
    (hg : ∀ (s : Shared) (H : Hp) (C : Addr) (cl : List (Str × Addr)) (fp : List Addr), PDG (X.blk s H scope (compEnvC scope cl C X.env) fp) tg g dg is) (his : ∀ j ∈ is, j ∈ vs)
    (ht : ∀ (s : Shared) (H : Hp) (C : Addr) (cl : List (Str × Addr)) (fp : List Addr), PDTs (X.blk s H scope (compEnvC scope cl C X.env) fp) W0 ifs dt)
    (he : ∀ (s : Shared) (H : Hp) (C : Addr) (cl : List (Str × Addr)) (fp : List Addr), PD (X.blk s H scope (compEnvC scope cl C X.env) fp) W0 elt de) (hs : ∀ x, foldedSetIterable it X.env x = pure x := by intro _; rfl) :
    PN X W (.ListComp elt [⟨tg, it, ifs, 0⟩] scope pos) (nLk i (nLC di dg dt de vs)) := by
  subst hv
  have mg := (hg X.s_0 X.H_0 0 [] []).mono
  have mt := (ht X.s_0 X.H_0 0 [] []).mono
  have me := (he X.s_0 X.H_0 0 [] []).mono
  refine pn_lock (mono_nLC hi.mono mg mt me) (PE.imp (pe_lc (pos := pos) hc hN hi.run ok (fun s H C cl fp => (hg s H C cl fp).pg) (fun s H C cl fp => (ht s H C cl fp).run) (fun s H C cl fp => (he s H C cl fp).run) hs)
    fun σ H Q ⟨B, F, ρ, S, L, h⟩ => ⟨B, F, ρ, S, L, hi.mono.go (fun _ _ h => h) (fun ds ρ1 h J B' F1 H1 l e1 S1 Y => lc_turn (Xb := X.blk X.s_0 X.H_0 scope (compEnvC scope [] 0 X.env) []) rfl (hg _ _ _ _ _) mt me his l e1 S1 Y h) h⟩)
/-! ### over a new dict: locked from then on -/
def tLk (te : TE) : TE := fun σ H Q => te σ H fun x H1 => ∃ d u, x = .ref d ∧ H1 d = some u ∧ Mut (some u) ∧ ∀ od, Q x (upd H1 d (.frz od u))
theorem pe_lk {te : TE} (h : PE X e te) : PE X e (tLk te) := ⟨fun pins s σ H Q I q => thn (h.run pins s σ H _ I q) fun v s1 ⟨x, H1, I1, r1, d, u, ex, hd, mu, q1⟩ => by
  obtain ⟨od, I2⟩ := I1.lock hd mu
  exact ⟨x, _, I2, r1, q1 od⟩⟩
def iItN (dn : NE) : DI := fun ρ X K => dn ρ X fun c ρ1 => ofS (dItems c.d) fun ds => K ds ρ1
def iKyN (dn : NE) : DI := fun ρ X K => dn ρ X fun c ρ1 => ofS (dKeys c.d) fun ds => K ds ρ1
theorem mono_iItN (m : MonoN dn) : MonoI (iItN dn) := ⟨fun hx hk h => m.go hx (fun c ρ h => ofS.mono (fun _ h => hk _ _ h) h) h⟩
theorem newLock {K : PySem.W.Frag} {B : Base} {F : Hp} {ρ : Env} {σ : L2.St} {H : Hp} {v : V} {c : Ct} (S : St K B F ρ σ H) (n : NwR K B F ρ σ H v c) : ∃ d u, v = .ref d ∧ H d = some u ∧ CtR K F d u c ∧ (isD u → ∀ o : Obj, B.Le (B.lk d (.frz o u)) ∧ Ex F (upd F d u) ∧ St K (B.lk d (.frz o u)) (upd F d u) ρ σ (upd H d (.frz o u))) := by
  obtain ⟨a, rfl, ⟨nf, ng, u, hu, hc⟩, h0, no⟩ := n.ex
  refine ⟨a, u, rfl, hu, hc, fun hD o => ?_⟩
  obtain ⟨e, S1⟩ := S.freezeAt hu nf (.inl h0) hc.noTb no
  refine ⟨⟨rfl, rfl, rfl, fun x w h => ?_⟩, e, S1.lock upd_same hD⟩
  have q : x ≠ a := fun z => by rw [z, ng] at h; cases h
  show upd B.G a _ x = _
  rw [upd_ne q]; exact h
theorem pdi_itemsN {elts : List Expr} {kk : Nat} {tpos apos cpos : Pos} (h : PN X W e dn) (hbase : attributeBase e "items" X.env (eval e X.env) = eval e X.env := by rfl) (hline : (apos.endLine == cpos.line) = true := by rfl) :
    PDI X W (.Tuple elts kk tpos) (.Call (.Attribute e "items" apos) [] [] cpos) (iItN dn) :=
  ⟨mono_iItN h.mono, PI.imp (pi_itemsB (pe_lk h.run) hbase hline) fun σ H R ⟨B, F, ρ, S, q⟩ => liftN.of h.mono (Ex.refl _) S q fun c ρ1 h v F1 H1 e1 S1 n => by
    obtain ⟨ds, e2, h⟩ := ofS.eq h
    obtain ⟨d, u, rfl, hu, hc, go⟩ := newLock S1 n
    cases c with
    | lst ds => cases e2
    | ins C lay xs => cases e2
    | dctN kvs =>
      obtain ⟨ws, rfl, r⟩ := hc
      cases e2
      refine ⟨d, _, rfl, hu, trivial, fun od => ⟨d, od, rfl, .inr (.inr ⟨ws, upd_same, ?_⟩)⟩⟩
      obtain ⟨l, e3, S2⟩ := go ⟨_, ws, rfl⟩ od
      exact h _ _ _ _ l (e1.trans e3) S2 (yld_itemsN (show upd B.G d _ d = _ from upd_same) (r.mono e3))
    | dct kvs =>
      obtain ⟨ws, rfl, r⟩ := hc
      cases e2
      refine ⟨d, _, rfl, hu, trivial, fun od => ⟨d, od, rfl, .inl ⟨ws, upd_same, ?_⟩⟩⟩
      obtain ⟨l, e3, S2⟩ := go trivial od
      exact h _ _ _ _ l (e1.trans e3) S2 (yld_itemsK (show upd B.G d _ d = _ from upd_same) (r.mono e3))
    | dctT kvs =>
      obtain ⟨ws, rfl, r⟩ := hc
      cases e2
      refine ⟨d, _, rfl, hu, trivial, fun od => ⟨d, od, rfl, .inr (.inl ⟨ws, upd_same, ?_⟩)⟩⟩
      obtain ⟨l, e3, S2⟩ := go trivial od
      exact h _ _ _ _ l (e1.trans e3) S2 (yld_itemsT (show upd B.G d _ d = _ from upd_same) (r.mono e3))⟩
end
end DL
set_option Elab.async false
set_option linter.all false
set_option maxRecDepth 100000
set_option maxHeartbeats 1000000
/-! DL17: built-in calls. -/
namespace DL
open PySem L2 Evl
variable [Tbs]
def asInts : List D → Option (List Int)
  | [] => some []
  | .int i :: xs => (asInts xs).map (i :: ·)
  | _ :: _ => Option.none
def asBools : List D → Option (List Bool)
  | [] => some []
  | .bool i :: xs => (asBools xs).map (i :: ·)
  | _ :: _ => Option.none
theorem asInts_eq : ∀ {xs : List D} {ns : List Int}, asInts xs = some ns → xs = ns.map .int
  | [], ns, h => by cases h; rfl
  | x :: xs, ns, h => by
    cases x <;> first | (cases h; done) | skip
    rename_i i
    unfold asInts at h
    cases q : asInts xs with
    | none => rw [q] at h; cases h
    | some ms => rw [q] at h; cases h; rw [asInts_eq q]; rfl
theorem asBools_eq : ∀ {xs : List D} {ns : List Bool}, asBools xs = some ns → xs = ns.map .bool
  | [], ns, h => by cases h; rfl
  | x :: xs, ns, h => by
    cases x <;> first | (cases h; done) | skip
    rename_i i
    unfold asBools at h
    cases q : asBools xs with
    | none => rw [q] at h; cases h
    | some ms => rw [q] at h; cases h; rw [asBools_eq q]; rfl
theorem asInts_map (ns : List Int) : asInts (ns.map .int) = some ns := by
  induction ns with
  | nil => rfl
  | cons n ns ih => simp [asInts, ih]
theorem asBools_map (ns : List Bool) : asBools (ns.map .bool) = some ns := by
  induction ns with
  | nil => rfl
  | cons n ns ih => simp [asBools, ih]
section
variable {K : PySem.W.Frag} {F F' H : Hp}
theorem Reps.ints : ∀ {ns : List Int} {vs : List V}, Reps K F vs (ns.map .int) → vs = ns.map .int
  | [], [], .nil => rfl
  | n :: ns, v :: vs, .cons r t => by cases r.int_inv; rw [Reps.ints t]; rfl
theorem Reps.bools : ∀ {ns : List Bool} {vs : List V}, Reps K F vs (ns.map .bool) → vs = ns.map .bl
  | [], [], .nil => rfl
  | n :: ns, v :: vs, .cons r t => by cases r.bool_inv; rw [Reps.bools t]; rfl
theorem Reps.ofInts : ∀ {ns : List Int}, Reps K F (ns.map .int) (ns.map .int)
  | [] => .nil
  | n :: ns => .cons (.int n) Reps.ofInts
theorem Reps.one {vs : List V} {d : D} (r : Reps K F vs [d]) : ∃ v, vs = [v] ∧ Rep K F v d := by
  cases r with
  | cons r t => cases t; exact ⟨_, rfl, r⟩
theorem Reps.two {vs : List V} {d d2 : D} (r : Reps K F vs [d, d2]) : ∃ v v2, vs = [v, v2] ∧ Rep K F v d ∧ Rep K F v2 d2 := by
  cases r with
  | cons r t => obtain ⟨v2, rfl, r2⟩ := t.one; exact ⟨_, _, rfl, r, r2⟩
def fAbs : DB
  | [.int i], P => P (.int i.natAbs)
  | _, _ => False
theorem rc_abs : RCall K (fun xs H Q => ∃ i, xs = [V.int i] ∧ Q (V.int (if i < 0 then -i else i)) H) fAbs := by
  refine ⟨fun {xs P P'} hp h => ?_, fun {B F ρ σ H vs xs Q P} S r h k => ?_⟩
  · unfold fAbs at h ⊢; split at h <;> first | exact hp _ h | exact h.elim
  · unfold fAbs at h
    split at h
    · obtain ⟨v, rfl, r1⟩ := r.one
      cases r1.int_inv
      rename_i i
      refine ⟨i, rfl, k _ h _ F H (Ex.refl _) S ?_⟩
      have : (if i < 0 then -i else i) = (i.natAbs : Int) := by split <;> omega
      rw [this]; exact .int _
    · exact h.elim
def fInt : DB
  | [.int i], P => P (.int i)
  | [.bool b], P => P (.int (if b then 1 else 0))
  | _, _ => False
theorem rc_int : RCall K (fun xs H Q => (∃ i, xs = [V.int i] ∧ Q (V.int i) H) ∨ ∃ k, xs = [V.bl k] ∧ Q (V.int (if k then 1 else 0)) H) fInt := by
  refine ⟨fun {xs P P'} hp h => ?_, fun {B F ρ σ H vs xs Q P} S r h k => ?_⟩
  · unfold fInt at h ⊢; split at h <;> first | exact hp _ h | exact h.elim
  · unfold fInt at h
    split at h
    · obtain ⟨v, rfl, r1⟩ := r.one
      cases r1.int_inv
      exact .inl ⟨_, rfl, k _ h _ F H (Ex.refl _) S (.int _)⟩
    · obtain ⟨v, rfl, r1⟩ := r.one
      cases r1.bool_inv
      exact .inr ⟨_, rfl, k _ h _ F H (Ex.refl _) S (.int _)⟩
    · exact h.elim
def fMin : DB
  | [.int i, .int j], P => P (.int (min i j))
  | _, _ => False
def fMax : DB
  | [.int i, .int j], P => P (.int (max i j))
  | _, _ => False
theorem rc_min : RCall K (fun xs H Q => ∃ i j, xs = [V.int i, V.int j] ∧ Q (V.int (if j < i then j else i)) H) fMin := by
  refine ⟨fun {xs P P'} hp h => ?_, fun {B F ρ σ H vs xs Q P} S r h k => ?_⟩
  · unfold fMin at h ⊢; split at h <;> first | exact hp _ h | exact h.elim
  · unfold fMin at h
    split at h
    · obtain ⟨v, v2, rfl, r1, r2⟩ := r.two
      cases r1.int_inv
      cases r2.int_inv
      rename_i i j
      refine ⟨i, j, rfl, k _ h _ F H (Ex.refl _) S ?_⟩
      have : (if j < i then j else i) = min i j := by split <;> omega
      rw [this]; exact .int _
    · exact h.elim
theorem rc_max : RCall K (fun xs H Q => ∃ i j, xs = [V.int i, V.int j] ∧ Q (V.int (if j > i then j else i)) H) fMax := by
  refine ⟨fun {xs P P'} hp h => ?_, fun {B F ρ σ H vs xs Q P} S r h k => ?_⟩
  · unfold fMax at h ⊢; split at h <;> first | exact hp _ h | exact h.elim
  · unfold fMax at h
    split at h
    · obtain ⟨v, v2, rfl, r1, r2⟩ := r.two
      cases r1.int_inv
      cases r2.int_inv
      rename_i i j
      refine ⟨i, j, rfl, k _ h _ F H (Ex.refl _) S ?_⟩
      have : (if j > i then j else i) = max i j := by split <;> omega
      rw [this]; exact .int _
    · exact h.elim
def fTuple : DB
  | [.list xs], P => P (.tuple xs)
  | [.rol xs], P => P (.tuple xs)
  | [.tuple xs], P => P (.tuple xs)
  | _, _ => False
theorem rc_tuple : RCall K (fun xs H Q => ∃ p ys, xs = [V.ref p] ∧ ((SqL K H p ys ∧ ∀ l, H l = none → Q (V.ref l) (upd H l (.tup ys))) ∨ (SqT K H p ys ∧ Q (V.ref p) H))) fTuple := by
  refine ⟨fun {xs P P'} hp h => ?_, fun {B F ρ σ H vs xs Q P} S r h k => ?_⟩
  · unfold fTuple at h ⊢; split at h <;> first | exact hp _ h | exact h.elim
  · unfold fTuple at h
    split at h
    · obtain ⟨v, rfl, r1⟩ := r.one
      obtain ⟨a, ws, rfl, ha, r3⟩ := r1.list_inv
      refine ⟨a, ws, rfl, .inl ⟨.inl (.inl (S.ex.on ha)), fun l hl => ?_⟩⟩
      obtain ⟨e, S'⟩ := S.alloc (o := .tup ws) hl
      exact k _ h _ _ _ e S' (.tup upd_same (r3.mono e))
    · obtain ⟨v, rfl, r1⟩ := r.one
      obtain ⟨a, ws, rfl, ha, r3⟩ := r1.rol_inv
      refine ⟨a, ws, rfl, .inl ⟨xl_l S.ex ha, fun l hl => ?_⟩⟩
      obtain ⟨e, S'⟩ := S.alloc (o := .tup ws) hl
      exact k _ h _ _ _ e S' (.tup upd_same (r3.mono e))
    · obtain ⟨v, rfl, r1⟩ := r.one
      obtain ⟨a, ws, rfl, ha, r2⟩ := r1.tuple_inv
      exact ⟨a, ws, rfl, .inr ⟨xl_t S.ex ha, k _ h _ F H (Ex.refl _) S r1⟩⟩
    · exact h.elim
def fList : DB
  | [.list xs], P => P (.list xs)
  | [.rol xs], P => P (.list xs)
  | [.tuple xs], P => P (.list xs)
  | _, _ => False
theorem rc_list : RCall K (fun xs H Q => ∃ p ys, xs = [V.ref p] ∧ (SqL K H p ys ∨ SqT K H p ys) ∧ ∀ l, H l = none → Q (V.ref l) (upd H l (.lst ys))) fList := by
  refine ⟨fun {xs P P'} hp h => ?_, fun {B F ρ σ H vs xs Q P} S r h k => ?_⟩
  · unfold fList at h ⊢; split at h <;> first | exact hp _ h | exact h.elim
  · unfold fList at h
    have fin : ∀ {a : Addr} {ws : List V} {ys : List D}, Reps K F ws ys → P (.list ys) → ∀ l, H l = none → Q (V.ref l) (upd H l (.lst ws)) := fun {a ws ys} r h l hl => by
      obtain ⟨e, S'⟩ := S.alloc (o := .lst ws) hl
      exact k _ h _ _ _ e S' (.lst upd_same (r.mono e))
    split at h
    · obtain ⟨v, rfl, r1⟩ := r.one
      obtain ⟨a, ws, rfl, ha, r3⟩ := r1.list_inv
      exact ⟨a, ws, rfl, .inl (.inl (.inl (S.ex.on ha))), fin (a := a) r3 h⟩
    · obtain ⟨v, rfl, r1⟩ := r.one
      obtain ⟨a, ws, rfl, ha, r3⟩ := r1.rol_inv
      exact ⟨a, ws, rfl, .inl (xl_l S.ex ha), fin (a := a) r3 h⟩
    · obtain ⟨v, rfl, r1⟩ := r.one
      obtain ⟨a, ws, rfl, ha, r3⟩ := r1.tuple_inv
      exact ⟨a, ws, rfl, .inr (xl_t S.ex ha), fin (a := a) r3 h⟩
    · exact h.elim
def fListD : DB
  | [.dict kvs], P => P (.list (kvs.map fun kv => keyD kv.1))
  | _, _ => False
theorem KReps.keys {κ : Type} : ∀ {ws : List (κ × V)} {kvs : List (κ × D)}, KReps K F ws kvs → ws.map (·.1) = kvs.map (·.1)
  | [], [], .nil => rfl
  | _ :: _, _ :: _, .cons r t => by simp [KReps.keys t]
theorem rc_listD : RCall K (fun xs H Q => ∃ (a : Addr) (kvs : List (Key × V)), xs = [V.ref a] ∧ Rd H a (.dK kvs) ∧ ∀ p, H p = none → Q (V.ref p) (upd H p (.lst (kvs.map fun kv => kV kv.1)))) fListD := by
  refine ⟨fun {xs P P'} hp h => ?_, fun {B F ρ σ H vs xs Q P} S r h k => ?_⟩
  · unfold fListD at h ⊢; split at h <;> first | exact hp _ h | exact h.elim
  · unfold fListD at h
    split at h
    · obtain ⟨v, rfl, r1⟩ := r.one
      obtain ⟨a, ws, rfl, ha, r3⟩ := r1.dict_inv
      refine ⟨a, ws, rfl, S.ex.rd ha, fun l hl => ?_⟩
      obtain ⟨e, S'⟩ := S.alloc (o := .lst (ws.map fun kv => kV kv.1)) hl
      refine k _ h _ _ _ e S' (.lst upd_same ?_)
      have h1 := r3.keys
      rename_i kvs
      have h2 : (ws.map fun kv => kV kv.1) = (kvs.map (·.1)).map kV := by rw [← h1, List.map_map]; rfl
      have h3 : (kvs.map fun kv => keyD kv.1) = (kvs.map (·.1)).map keyD := by rw [List.map_map]; rfl
      rw [h2, h3]
      exact keysD_rep _
    · exact h.elim
def fSortI : DB
  | [.list xs], P => ofS (asInts xs) fun ns => ∀ ns' : List Int, ns'.Perm ns → ns'.Pairwise (· ≤ ·) → P (.list (ns'.map .int))
  | _, _ => False
theorem rc_sortI : RCall K (rSortedI K) fSortI := by
  refine ⟨fun {xs P P'} hp h => ?_, fun {B F ρ σ H vs xs Q P} S r h k => ?_⟩
  · unfold fSortI at h ⊢
    split at h
    · exact ofS.mono (fun ns h ns' h1 h2 => hp _ (h ns' h1 h2)) h
    · exact h.elim
  · unfold fSortI at h
    split at h
    · obtain ⟨ns, e, h⟩ := ofS.eq h
      rw [asInts_eq e] at r
      obtain ⟨v, rfl, r1⟩ := r.one
      obtain ⟨a, ws, rfl, ha, r3⟩ := r1.list_inv
      rw [r3.ints] at ha
      refine ⟨a, ns, rfl, .inl (.inl (S.ex.on ha)), fun ns' p h1 h2 hp => ?_⟩
      obtain ⟨e, S'⟩ := S.alloc (o := .lst (ns'.map V.int)) hp
      exact k _ (h ns' h1 h2) _ _ _ e S' (.lst upd_same Reps.ofInts)
    · exact h.elim
def fAny : DB
  | [.list xs], P => ofS (asBools xs) fun bs => P (.bool (bs.any id))
  | _, _ => False
def fAll : DB
  | [.list xs], P => ofS (asBools xs) fun bs => P (.bool (bs.all id))
  | _, _ => False
theorem rc_any : RCall K (rAny K) fAny := by
  refine ⟨fun {xs P P'} hp h => ?_, fun {B F ρ σ H vs xs Q P} S r h k => ?_⟩
  · unfold fAny at h ⊢
    split at h
    · exact ofS.mono (fun ns h => hp _ h) h
    · exact h.elim
  · unfold fAny at h
    split at h
    · obtain ⟨ns, e, h⟩ := ofS.eq h
      rw [asBools_eq e] at r
      obtain ⟨v, rfl, r1⟩ := r.one
      obtain ⟨a, ws, rfl, ha, r3⟩ := r1.list_inv
      rw [r3.bools] at ha
      exact ⟨a, ns, rfl, .inl (.inl (S.ex.on ha)), k _ h _ F H (Ex.refl _) S (.bool _)⟩
    · exact h.elim
theorem rc_all : RCall K (rAll K) fAll := by
  refine ⟨fun {xs P P'} hp h => ?_, fun {B F ρ σ H vs xs Q P} S r h k => ?_⟩
  · unfold fAll at h ⊢
    split at h
    · exact ofS.mono (fun ns h => hp _ h) h
    · exact h.elim
  · unfold fAll at h
    split at h
    · obtain ⟨ns, e, h⟩ := ofS.eq h
      rw [asBools_eq e] at r
      obtain ⟨v, rfl, r1⟩ := r.one
      obtain ⟨a, ws, rfl, ha, r3⟩ := r1.list_inv
      rw [r3.bools] at ha
      exact ⟨a, ns, rfl, .inl (.inl (S.ex.on ha)), k _ h _ F H (Ex.refl _) S (.bool _)⟩
    · exact h.elim
def fLen : DB
  | [.list xs], P => P (.int xs.length)
  | [.rol xs], P => P (.int xs.length)
  | [.tuple xs], P => P (.int xs.length)
  | [.str x], P => x.length ≤ sizeLine ∧ P (.int x.length)
  | _, _ => False
theorem rc_len : RCall K (fun xs H Q => ∃ x n, xs = [x] ∧ LenV K x H n ∧ Q (V.int n) H) fLen := by
  refine ⟨fun {xs P P'} hp h => ?_, fun {B F ρ σ H vs xs Q P} S r h k => ?_⟩
  · unfold fLen at h ⊢; split at h <;> first | exact hp _ h | exact ⟨h.1, hp _ h.2⟩ | exact h.elim
  · unfold fLen at h
    split at h
    · obtain ⟨v, rfl, r1⟩ := r.one
      obtain ⟨a, ws, rfl, ha, r3⟩ := r1.list_inv
      exact ⟨_, _, rfl, .inl ⟨ws, .inl (.inl (S.ex.on ha)), rfl⟩, by rw [r3.length]; exact k _ h _ F H (Ex.refl _) S (.int _)⟩
    · obtain ⟨v, rfl, r1⟩ := r.one
      obtain ⟨a, ws, rfl, ha, r3⟩ := r1.rol_inv
      exact ⟨_, _, rfl, .inl ⟨ws, xl_l S.ex ha, rfl⟩, by rw [r3.length]; exact k _ h _ F H (Ex.refl _) S (.int _)⟩
    · obtain ⟨v, rfl, r1⟩ := r.one
      obtain ⟨a, ws, rfl, ha, r3⟩ := r1.tuple_inv
      exact ⟨_, _, rfl, .inr ⟨ws, xl_t S.ex ha, rfl⟩, by rw [r3.length]; exact k _ h _ F H (Ex.refl _) S (.int _)⟩
    · obtain ⟨v, rfl, r1⟩ := r.one
      cases r1.str_inv
      exact ⟨_, _, rfl, ⟨h.1, rfl⟩, k _ h.2 _ F H (Ex.refl _) S (.int _)⟩
    · exact h.elim
end
/-! ### isinstance -/
/-- the name of a datum's built-in type -/
def D.tn : D → Option String
  | .none => some "NoneType"
  | .bool _ => some "bool"
  | .int _ => some "int"
  | .str _ => some "str"
  | .list _ => some "list"
  | .rol _ => some "list"
  | .tuple _ => some "tuple"
  | .dict _ => some "dict"
  | .dictT _ => some "dict"
  | .dictN _ => some "dict"
  | .ob _ _ _ => Option.none
  | .exn _ _ _ _ _ => Option.none
def subTy (a T : String) : Option Bool := if a ∈ ["NoneType", "bool", "int", "str", "list", "tuple", "dict"] then (if T ∈ ["bool", "int", "str", "list", "tuple", "dict"] then some (a == T || (a == "bool" && T == "int")) else none) else none
theorem subTy_kit {K : PySem.W.Frag} {a T : String} {b : Bool} (h : subTy a T = some b) : PySem.W.kitOne K (.type a) (.type T) = some b := by
  unfold subTy at h
  split at h
  · split at h
    · rename_i h1 h2
      simp only [List.mem_cons, List.not_mem_nil, or_false] at h1 h2
      rcases h1 with rfl | rfl | rfl | rfl | rfl | rfl | rfl <;> rcases h2 with rfl | rfl | rfl | rfl | rfl | rfl <;> (cases h; exact kit_ty (by decide +kernel))
    · cases h
  · cases h
end DL
set_option Elab.async false
set_option linter.all false
set_option maxRecDepth 100000
set_option maxHeartbeats 1000000
/-! DL18: isinstance; dict displays; several targets. -/
namespace DL
open PySem L2 Evl
variable [Tbs]
def D.tn2 : D → Option String
  | .dictT _ => Option.none
  | .dictN _ => Option.none
  | d => d.tn
theorem tyX_rep {K : PySem.W.Frag} {F H : Hp} {v : V} {d : D} {a : String} (e : ExL F H) (r : Rep K F v d) (h : d.tn2 = some a) : TyX K H v (.type a) := by
  cases d with
  | none => cases h; cases r; exact .base .non
  | bool b => cases h; cases r; exact .base (.bl _)
  | int i => cases h; cases r; exact .base (.int _)
  | str x => cases h; cases r; exact .base (.str _)
  | list xs => cases h; obtain ⟨p, ws, rfl, hp, _⟩ := r.list_inv; exact .base (.lst (e.on hp))
  | tuple xs => cases h; obtain ⟨p, ws, rfl, hp, _⟩ := r.tuple_inv2; exact .base (.tup (e.on hp))
  | rol xs =>
    cases h
    obtain ⟨p, ws, rfl, hp, _⟩ := r.rol_inv
    rcases hp with (hp | ⟨o, hp⟩) | ⟨o, its, n, hk, hc, _⟩
    · exact .base (.lst (e.on hp))
    · exact .base (.frz (e.on hp))
    · exact .kList hk hc
  | dict kvs =>
    cases h
    obtain ⟨p, ws, rfl, hp, _⟩ := r.dict_inv
    rcases e.rd hp with hp | ⟨o, hp⟩
    · exact .base (.dK hp)
    · exact .fDict hp
  | dictT kvs => cases h
  | dictN kvs => cases h
  | ob C lay xs => cases h
  | exn a dd C f d => cases h
def isTy (T : String) (d : D) : Option Bool := d.tn2.bind fun a => subTy a T
def isTy2 (T U : String) (d : D) : Option Bool := (isTy T d).bind fun b => (isTy U d).map fun c => b || c
theorem isTy_kit {K : PySem.W.Frag} {F H : Hp} {v : V} {d : D} {T : String} {b : Bool} (e : ExL F H) (r : Rep K F v d) (h : isTy T d = some b) : ∃ t, d.tn2 = some t ∧ TyX K H v (.type t) ∧ PySem.W.kitOne K (.type t) (.type T) = some b := by
  unfold isTy at h
  cases q : d.tn2 with
  | none => rw [q] at h; cases h
  | some a =>
    rw [q] at h
    exact ⟨a, rfl, tyX_rep e r q, subTy_kit h⟩
def eIs (f : D → Option Bool) (de : DE) : DE := fun ρ X K => de ρ X fun d ρ1 => ofS (f d) fun b => K (.bool b) ρ1
section
variable {X : Cx} {W : WX} {a b c e : Expr} {da db de dk : DE} {dt : DT} {dn : NE} {das : DAs} {es : List Expr} {pos p p2 p3 p4 : Pos}
theorem mono_eIs {f : D → Option Bool} (m : MonoE de) : MonoE (eIs f de) := ⟨fun hx hk h => m.go hx (fun d ρ h => ofS.mono (fun b h => hk _ _ h) h) h⟩
theorem pe_ty {x : Str} {T : String} (hg : Gl X x) (hm : X.mg x = none) (hv : bootBuiltins x = some (.type T)) (hn : x ≠ "__name__" := by decide) (hd : (x == ("__debug__" : Str)) = false := by decide) : PE X (.Name x p) (tC (.ty T)) := pe_bltn hg hm hv rfl hn hd
theorem pd_isT {x : Str} {T : String} (hg : Gl X "isinstance") (hm : X.mg "isinstance" = none) (hgT : Gl X x) (hmT : X.mg x = none) (hv : bootBuiltins x = some (.type T)) (he : PD X W e de) (hn : x ≠ "__name__" := by decide) (hd : (x == ("__debug__" : Str)) = false := by decide)
    (h1 : starEach [.Name x p2] X.env = (false, eval (.Name x p2) X.env) :: starEach [] X.env := by rfl) (h2 : starEach [e, .Name x p2] X.env = (false, eval e X.env) :: starEach [.Name x p2] X.env := by rfl) (h3 : (backTo pos (starEach [.Name x p2] X.env)).any (·.1) = false := by rfl) :
    PD X W (.Call (.Name "isinstance" p) [e, .Name x p2] [] pos) (eIs (isTy T) de) :=
  ⟨mono_eIs he.mono, PE.imp (pe_callB call_isi hg hm rfl (pa_cons he.run (pa_cons (pe_ty hgT hmT hv hn hd) pa_nil h1) h2) (by decide) (by decide) h2 h3) fun σ H Q ⟨B, F, ρ, S, h⟩ => liftE.of he.mono (Ex.refl _) S h fun d ρ1 h v F1 H1 e1 S1 r1 => by
    obtain ⟨b, eb, h⟩ := ofS.eq h
    obtain ⟨t, _, ty, k⟩ := isTy_kit S1.ex r1 eb
    exact ⟨v, .ty T, .type t, .type T, b, rfl, .ty T, ty, k, h _ F1 H1 e1 S1 (.bool _)⟩⟩
theorem pd_isT2 {x y : Str} {T U : String} {x1} (hg : Gl X "isinstance") (hm : X.mg "isinstance" = none) (hgT : Gl X x) (hmT : X.mg x = none) (hv : bootBuiltins x = some (.type T)) (hgU : Gl X y) (hmU : X.mg y = none) (hvU : bootBuiltins y = some (.type U)) (he : PD X W e de)
    (hn : x ≠ "__name__" := by decide) (hd : (x == ("__debug__" : Str)) = false := by decide) (hn' : y ≠ "__name__" := by decide) (hd' : (y == ("__debug__" : Str)) = false := by decide)
    (h0 : starEach [.Name y p3] X.env = (false, eval (.Name y p3) X.env) :: starEach [] X.env := by rfl) (h0' : starEach [.Name x p2, .Name y p3] X.env = (false, eval (.Name x p2) X.env) :: starEach [.Name y p3] X.env := by rfl)
    (h1 : starEach [.Tuple [.Name x p2, .Name y p3] x1 p4] X.env = (false, eval (.Tuple [.Name x p2, .Name y p3] x1 p4) X.env) :: starEach [] X.env := by rfl) (h2 : starEach [e, .Tuple [.Name x p2, .Name y p3] x1 p4] X.env = (false, eval e X.env) :: starEach [.Tuple [.Name x p2, .Name y p3] x1 p4] X.env := by rfl)
    (h3 : (backTo pos (starEach [.Tuple [.Name x p2, .Name y p3] x1 p4] X.env)).any (·.1) = false := by rfl) :
    PD X W (.Call (.Name "isinstance" p) [e, .Tuple [.Name x p2, .Name y p3] x1 p4] [] pos) (eIs (isTy2 T U) de) :=
  ⟨mono_eIs he.mono, PE.imp (pe_callB call_isiT hg hm rfl (pa_cons he.run (pa_cons (pe_tup (pa_cons (pe_ty hgT hmT hv hn hd) (pa_cons (pe_ty hgU hmU hvU hn' hd') pa_nil h0) h0')) pa_nil h1) h2) (by decide) (by decide) h2 h3) fun σ H Q ⟨B, F, ρ, S, h⟩ => liftE.of he.mono (Ex.refl _) S h fun d ρ1 h v F1 H1 e1 S1 r1 => by
    obtain ⟨b, eb, h⟩ := ofS.eq h
    unfold isTy2 at eb
    cases q1 : isTy T d with
    | none => rw [q1] at eb; cases eb
    | some b1 =>
      cases q2 : isTy U d with
      | none => rw [q1, q2] at eb; cases eb
      | some b2 =>
        rw [q1, q2] at eb
        have eb : (b1 || b2) = b := by simpa using eb
        obtain ⟨t, ht, ty, k1⟩ := isTy_kit S1.ex r1 q1
        obtain ⟨t', ht', ty', k2⟩ := isTy_kit S1.ex r1 q2
        rw [ht] at ht'
        cases ht'
        refine ⟨by show 2 ≤ sizeLine; rw [sizeLine_eq]; decide, fun q hq => ?_⟩
        obtain ⟨e2, S2⟩ := S1.alloc (o := .tup [.ty T, .ty U]) hq
        refine ⟨v, q, [.ty T, .ty U], .type t, [.type T, .type U], b, rfl, upd_same, .cons (.ty T) (.cons (.ty U) .nil), tyX_rep S2.ex (r1.mono e2) ht, ?_, h _ _ _ (e1.trans e2) S2 (.bool _)⟩
        subst eb
        refine kitAny_cons k1 (fun z => ?_) (fun z => by rw [z]; rfl)
        subst z
        refine kitAny_cons k2 (fun z => ?_) (fun z => by rw [z]; rfl)
        subst z
        rfl⟩
end
end DL
set_option Elab.async false
set_option linter.all false
set_option maxRecDepth 100000
set_option maxHeartbeats 1000000
/-! DL19: dict displays of one pair. -/
namespace DL
open PySem L2 Evl PySem.Spec PyProof.Rows
variable [Tbs]
section
variable {X : Cx} {pins : List (Addr × Obj)} {σ : L2.St} {H : Hp} {s : Shared} {A : Around} {E : Value → Shared → Prop} {a b : Addr}
theorem d_dictSetT {kvs : List (List Key × V)} {k : List Key} {v : V} {r : Value} {Q : Unit → Shared → Prop} (hu : X.A.units + 1 < cLine) (I : Inv X pins σ H s) (e : H a = some (.dT kvs)) (eb : H b = some (.tup (k.map kV))) (l : kvs.length < sizeLine) (rv : RelV v r)
    (h : ∀ s', Inv X pins σ (upd H a (.dT (putK kvs k v))) s' → Q () s') : wpAny (model X.prog X.w) X.A (dictSet a (.ref b) r) Q E s := by
  obtain ⟨z, hd, xs, rel, dd⟩ := dt_of I.hok e
  have hz : xs.length ≤ sizeLine := by rw [← Paired.length rel]; exact z
  have hl : (putK kvs k v).length ≤ sizeLine := by have := length_putK kvs k v; omega
  refine wpAny_dictSet_heap (hsz := hz) (knd := tupleKind (mixKind X.prog X.w)) (show _ by exact Nat.lt_of_succ_lt hu) (key_of I.hok eb) dd fun h' dd' hs => h _ ?_
  obtain ⟨q, es, ep, hq, h2, h3, h4, _, h5⟩ := dd'
  refine d_write I (by rw [e]; exact True.intro) hs ⟨q, hq⟩ ⟨hl, hd, _, (rel.put k eb rv).keeps fun c ys ec => ?_, q, es, ep, hq, h2, h3, h4, h5⟩
  rw [upd_ne (ne_of ec e (fun z => nomatch z))]
  exact ec
def tD1T (tk tv : TE) : TE := fun σ H Q => ∀ p, H p = none → tPairs [(tk, tv)] σ (upd H p (.dT [])) fun ps H2 => H2 p = some (.dT []) ∧ ∃ b ks y, ps = [(V.ref b, y)] ∧ H2 b = some (.tup (List.map kV ks)) ∧ Q (.ref p) (upd H2 p (.dT [(ks, y)]))
theorem pe_disp1T {k v : Expr} {tk tv : TE} {pos : Pos} (hu : X.A.units + 1 < cLine) (hk : PE X k tk) (hv : PE X v tv) : PE X (.Dict [some k] [v] pos) (tD1T tk tv) := by
  refine ⟨fun pins s σ H Q I q => ?_⟩
  have hn := I.hok.fresh (Nat.le_refl s.heap.objs.size)
  have I1 := I.laid (a := s.heap.objs.size) (o := .dT []) (h' := s.heap.push { cls := .type "dict", data := .dict #[] }) (t' := s.toks) (fun _ _ q => Heap.get?_push_of_some _ q) (Nat.le_refl _) (dt_empty s.heap I.big)
  refine wpAny_Dict_any rfl rfl (by simp) (by simp) (thn ((pps_cons hk hv pps_nil).run pins _ σ _ _ I1 (q _ hn)) fun ws s2 h2 => ?_)
  obtain ⟨ps, H2, I2, rel, hp, b, ks, y, eps, hb, q2⟩ := h2
  subst eps
  cases rel with
  | @cons p0 q0 _ _ h t =>
    cases t
    obtain ⟨u, r⟩ := q0
    obtain ⟨ru, rr⟩ := h
    obtain rfl : u = Value.ref b := ru
    unfold storeAll
    rw [List.forIn_cons]
    refine wpAny_bind (wpAny_bind (d_dictSetT hu I2 hp hb (by rw [sizeLine_eq]; decide) rr fun s3 I3 => wpAny_pure ?_))
    refine wpAny_pure ⟨.ref s.heap.objs.size, _, I3, rfl, q2⟩
end
/-- {k: v}, the key an int or a text -/
def nD1K (dk dv : DE) : NE := fun ρ X K => dk ρ X fun k ρ1 => dv ρ1 X fun v ρ2 => ofS k.key fun kk => K (.dct [(kk, v)]) ρ2
/-- .. a tuple of such -/
def nD1T (dk dv : DE) : NE := fun ρ X K => dk ρ X fun k ρ1 => dv ρ1 X fun v ρ2 => ofS k.keys fun kk => K (.dctT [(kk, v)]) ρ2
section
variable {X : Cx} {W : WX} {a b : Expr} {dk dv : DE} {pos : Pos}
theorem xl_prot {K : PySem.W.Frag} {B : Base} {F : Hp} {σ : L2.St} {p : Addr} {o : HO} {x : Exn} {ρ' : Env} (gp : B.G p = none) (f0 : B.F0 p = none) (nt : ∀ vs, o ≠ .tup vs) (h : xl K W B F σ x ρ') : xl K W (B.prot p o) F σ x ρ' :=
  fun F' H' dd v e S h1 r => h F' H' dd v e (S.unprot gp f0 nt).1 h1 r
/-- what is evaluated while a new object stands aside -/
theorem aside {K : PySem.W.Frag} {B : Base} {F : Hp} {ρ : Env} {σ : L2.St} {H : Hp} {p : Addr} {o : HO} (S : St K B F ρ σ H) (hp : H p = none) (nt : ∀ vs, o ≠ .tup vs) (nb : ¬ isTb o := by intro z; rcases z with ⟨_, z⟩ | ⟨_, _, z⟩ <;> first | cases z | (unfold LamX.CodeO at z; cases z)) : St K (B.prot p o) F ρ σ (upd H p o) ∧ B.G p = none ∧ B.F0 p = none ∧ B.H0 p = none := by
  obtain ⟨S1, fp, gp, h0⟩ := S.keepNew (o := o) hp
  refine ⟨S1.prot upd_same fp (fun j hj z => ?_) (fun ps z => nb (.inl ⟨ps, z⟩)), gp, fresh_back S.ge fp, h0⟩
  cases hs : ρ.getD j .un with
  | un => rw [hs] at hj; cases hj
  | fz d => rw [hs] at hj; cases hj
  | ow b c =>
    obtain ⟨a', e1, ⟨_, _, o', ho', _⟩, _⟩ := S.ow hs
    rw [z] at e1
    have : p = a' := by simpa using e1
    subst this
    rw [hp] at ho'; cases ho'
/-- .. and then taken up, rewritten -/
theorem takeUp {K : PySem.W.Frag} {B : Base} {F : Hp} {ρ : Env} {σ : L2.St} {H : Hp} {p : Addr} {o o' : HO} {c : Ct} (S : St K (B.prot p o) F ρ σ H) (gp : B.G p = none) (f0 : B.F0 p = none) (h0 : B.H0 p = none) (nt : ∀ vs, o ≠ .tup vs) (hc : CtR K F p o' c) (nb : ¬ isTb o := by intro z; rcases z with ⟨_, z⟩ | ⟨_, _, z⟩ <;> first | cases z | (unfold LamX.CodeO at z; cases z)) :
    H p = some o ∧ St K B F ρ σ (upd H p o') ∧ NwR K B F ρ σ (upd H p o') (.ref p) c := by
  obtain ⟨S1, hp, fp, no⟩ := S.unprot gp f0 nt
  refine ⟨hp, ⟨S1.ex.upd fp, fun a u h => ?_, S1.new, S1.ge, S1.thr.upd fun vs z => absurd z (hc.noTup vs), S1.len, fun i => ?_, S1.own, S1.tb.upd hp nb⟩, ⟨p, rfl, ⟨fp, gp, o', upd_same, hc⟩, h0, no⟩⟩
  · have q : a ≠ p := fun z => by rw [z, gp] at h; cases h
    rw [upd_ne q]; exact S1.out a u h
  · have s := S1.sl i
    cases hs : ρ.getD i .un with
    | un => trivial
    | fz d => rw [hs] at s; exact s
    | ow b c =>
      rw [hs] at s
      obtain ⟨a, e1, ⟨nf, ng, u, hu, hc⟩, h2, h3⟩ := s
      have q : a ≠ p := fun z => no i (by rw [hs]; rfl) (by rw [e1, z])
      exact ⟨a, e1, ⟨nf, ng, u, by rw [upd_ne q]; exact hu, hc⟩, h2, h3⟩
theorem pn_disp1K (ha : PD X W a dk) (hb : PD X W b dv) : PN X W (.Dict [some a] [b] pos) (nD1K dk dv) := by
  refine ⟨⟨fun hx hk h => ha.mono.go hx (fun k ρ h => hb.mono.go hx (fun v ρ h => ofS.mono (fun kk h => hk _ _ h) h) h) h⟩, PE.imp (pe_disp (pps_cons ha.run hb.run pps_nil) rfl rfl (by simp) (by simp)) fun σ H Q ⟨B, F, ρ, S, h⟩ p hp => ?_⟩
  obtain ⟨S1, gp, f0, h0⟩ := aside S hp (o := .dK []) (fun _ z => nomatch z)
  refine liftE.of ha.mono (Ex.refl _) S1 (ha.mono.go (fun x ρ h => xl_prot gp f0 (fun _ z => nomatch z) h) (fun _ _ h => h) h) fun k ρ1 h v F1 H1 e1 S1 r1 => ?_
  refine liftE.of hb.mono e1 S1 (hb.mono.go (fun x ρ h => xl_prot gp f0 (fun _ z => nomatch z) h) (fun _ _ h => h) h) fun y ρ2 h w F2 H2 e2 S2 r2 => ?_
  obtain ⟨kk, ek, h⟩ := ofS.eq h
  have hc : CtR X.K F2 p (.dK [(kk, w)]) (.dct [(kk, y)]) := ⟨_, rfl, .cons r2 .nil⟩
  obtain ⟨hp2, S3, n⟩ := takeUp S2 gp f0 h0 (fun _ z => nomatch z) hc
  exact ⟨hp2, [(kk, w)], by rw [key_rep r1 ek]; rfl, by simp, h _ _ _ (e1.trans e2) S3 n⟩
theorem pn_disp1T {k : Nat} (hr : Room k X.A) (ha : PD X W a dk) (hb : PD X W b dv) : PN X W (.Dict [some a] [b] pos) (nD1T dk dv) := by
  refine ⟨⟨fun hx hk h => ha.mono.go hx (fun k ρ h => hb.mono.go hx (fun v ρ h => ofS.mono (fun kk h => hk _ _ h) h) h) h⟩, PE.imp (pe_disp1T (hu_of hr) ha.run hb.run) fun σ H Q ⟨B, F, ρ, S, h⟩ p hp => ?_⟩
  obtain ⟨S1, gp, f0, h0⟩ := aside S hp (o := .dT []) (fun _ z => nomatch z)
  refine liftE.of ha.mono (Ex.refl _) S1 (ha.mono.go (fun x ρ h => xl_prot gp f0 (fun _ z => nomatch z) h) (fun _ _ h => h) h) fun k ρ1 h v F1 H1 e1 S1 r1 => ?_
  refine liftE.of hb.mono e1 S1 (hb.mono.go (fun x ρ h => xl_prot gp f0 (fun _ z => nomatch z) h) (fun _ _ h => h) h) fun y ρ2 h w F2 H2 e2 S2 r2 => ?_
  obtain ⟨kk, ek, h⟩ := ofS.eq h
  have hc : CtR X.K F2 p (.dT [(kk, w)]) (.dctT [(kk, y)]) := ⟨_, rfl, .cons r2 .nil⟩
  obtain ⟨hp2, S3, n⟩ := takeUp S2 gp f0 h0 (fun _ z => nomatch z) hc
  obtain ⟨q, rfl, hq⟩ := keys_rep r1 ek
  exact ⟨hp2, q, kk, w, rfl, S2.ex.on (e2 _ _ hq), h _ _ _ (e1.trans e2) S3 n⟩
end
end DL
set_option Elab.async false
set_option linter.all false
set_option maxRecDepth 100000
set_option maxHeartbeats 1000000
/-! DL20: a, b = e, f: some of the values new objects. -/
namespace DL
open PySem L2 Evl
variable [Tbs]
inductive Itm where
  | d (x : D)
  | c (c : Ct)
def ItmR (K : PySem.W.Frag) (B : Base) (F : Hp) (ρ : Env) (σ : L2.St) (H : Hp) : List V → List Itm → Prop
  | [], [] => True
  | v :: vs, .d x :: its => Rep K F v x ∧ ItmR K B F ρ σ H vs its
  | v :: vs, .c c :: its => NwR K B F ρ σ H v c ∧ (∀ (j : Nat) c', its[j]? = some (.c c') → vs[j]? ≠ some v) ∧ ItmR K B F ρ σ H vs its
  | _, _ => False
abbrev DM := Env → XP → (List Itm → Env → Prop) → Prop
structure MonoM (de : DM) : Prop where
  go : ∀ {ρ X X' K K'}, (∀ x ρ, X x ρ → X' x ρ) → (∀ r ρ, K r ρ → K' r ρ) → de ρ X K → de ρ X' K'
def liftM (K : PySem.W.Frag) (W : WX) (dm : DM) : TA := fun σ H Q => ∃ B F ρ, St K B F ρ σ H ∧ dm ρ (xl K W B F σ) fun its ρ' => ∀ vs F' H', Ex F F' → St K B F' ρ' σ H' → ItmR K B F' ρ' σ H' vs its → Q vs H'
structure PM (X : Cx) (W : WX) (es : List Expr) (dm : DM) : Prop where
  mono : MonoM dm
  run : PA X es (liftM X.K W dm)
section
variable {K : PySem.W.Frag} {W : WX} {B : Base} {F F0 F' : Hp} {ρ ρ' : Env} {σ : L2.St} {H : Hp}
theorem liftM.of {dm : DM} {k : List Itm → Env → Prop} {Q : List V → Hp → Prop} (m : MonoM dm) (e : Ex F0 F) (S : St K B F ρ σ H) (h : dm ρ (xl K W B F0 σ) k) (hk : ∀ r ρ1, k r ρ1 → ∀ v F1 H1, Ex F F1 → St K B F1 ρ1 σ H1 → ItmR K B F1 ρ1 σ H1 v r → Q v H1) : liftM K W dm σ H Q :=
  ⟨B, F, ρ, S, m.go (xl_up e) hk h⟩
theorem ItmR.length : ∀ {vs : List V} {its : List Itm}, ItmR K B F ρ σ H vs its → vs.length = its.length
  | [], [], _ => rfl
  | _ :: _, .d _ :: _, h => by simp [ItmR.length h.2]
  | _ :: _, .c _ :: _, h => by simp [ItmR.length h.2.2]
  | [], _ :: _, h => by simp [ItmR] at h
  | _ :: _, [], h => by simp [ItmR] at h
theorem ItmR.unprot {p : Addr} {o : HO} : ∀ {vs : List V} {its : List Itm}, ItmR K (B.prot p o) F ρ σ H vs its → ItmR K B F ρ σ H vs its ∧ ∀ (j : Nat) c', its[j]? = some (.c c') → vs[j]? ≠ some (.ref p)
  | [], [], _ => ⟨trivial, fun j c h => by simp at h⟩
  | v :: vs, .d x :: its, h => by
    obtain ⟨a, b⟩ := ItmR.unprot h.2
    refine ⟨⟨h.1, a⟩, fun j c hj => ?_⟩
    cases j with
    | zero => simp at hj
    | succ j => simpa using b j c (by simpa using hj)
  | v :: vs, .c c :: its, h => by
    obtain ⟨n, no, h⟩ := h
    obtain ⟨a, b⟩ := ItmR.unprot h
    obtain ⟨q, rfl, ⟨nf, ng, ob⟩, h0, no2⟩ := n.ex
    have ng' : upd B.G p o q = none := ng
    have hq : q ≠ p := fun z => by rw [z, upd_same] at ng'; cases ng'
    rw [upd_ne hq] at ng'
    have h0' : upd B.H0 p o q = none := h0
    rw [upd_ne hq] at h0'
    refine ⟨⟨⟨q, rfl, ⟨nf, ng', ob⟩, h0', no2⟩, no, a⟩, fun j c hj => ?_⟩
    cases j with
    | zero => simpa using hq
    | succ j => simpa using b j c (by simpa using hj)
  | [], _ :: _, h => by simp [ItmR] at h
  | _ :: _, [], h => by simp [ItmR] at h
def setItms : List Nat → List Itm → Env → Env
  | i :: is, .d x :: its, ρ => setItms is its (ρ.set i (.fz x))
  | i :: is, .c c :: its, ρ => setItms is its (ρ.set i (.ow false c))
  | _, _, ρ => ρ
def setVs : List Nat → List V → L2.St → L2.St
  | i :: is, v :: vs, σ => setVs is vs (σ.set i (some v))
  | _, _, σ => σ
theorem ItmR.slots : ∀ {vs : List V} {its : List Itm} {ρ' : Env} {σ' : L2.St} , (∀ (j : Nat) c, its[j]? = some (.c c) → ∀ a, vs[j]? = some (.ref a) → (∀ i, isOw (ρ.getD i .un) = true → σ[i]? ≠ some (some (.ref a))) → ∀ i, isOw (ρ'.getD i .un) = true → σ'[i]? ≠ some (some (.ref a))) → ItmR K B F ρ σ H vs its → ItmR K B F ρ' σ' H vs its
  | [], [], _, _, _, _ => trivial
  | v :: vs, .d x :: its, ρ', σ', hs, h => ⟨h.1, ItmR.slots (fun j c e => hs (j + 1) c (by simpa using e)) h.2⟩
  | v :: vs, .c c :: its, ρ', σ', hs, h => by
    obtain ⟨n, no, h⟩ := h
    obtain ⟨a, rfl, ow, h0, no2⟩ := n.ex
    exact ⟨⟨a, rfl, ow, h0, hs 0 c rfl a rfl no2⟩, no, ItmR.slots (fun j c e => hs (j + 1) c (by simpa using e)) h⟩
  | [], _ :: _, _, _, _, h => by simp [ItmR] at h
  | _ :: _, [], _, _, _, h => by simp [ItmR] at h
theorem St.setItms : ∀ {is : List Nat} {vs : List V} {its : List Itm} {ρ : Env} {σ : L2.St}, is.length = its.length → St K B F ρ σ H → ItmR K B F ρ σ H vs its → St K B F (setItms is its ρ) (setVs is vs σ) H
  | [], [], [], _, _, _, S, _ => S
  | i :: is, v :: vs, .d x :: its, ρ, σ, hl, S, h => by
    show St K B F (DL.setItms is its (ρ.set i (.fz x))) (setVs is vs (σ.set i (some v))) H
    refine St.setItms (by simpa using hl) (S.set_fz' h.1) (ItmR.slots (fun j c e a ha no k hk z => ?_) h.2)
    by_cases q : i = k
    · subst q
      by_cases hi : i < ρ.length
      · rw [getD_set_self hi] at hk; cases hk
      · rw [List.set_eq_of_length_le (by omega)] at hk
        rw [List.set_eq_of_length_le (by rw [S.len]; omega)] at z
        exact no i hk z
    · rw [getD_set_ne q] at hk
      rw [List.getElem?_set_ne q] at z
      exact no k hk z
  | i :: is, v :: vs, .c c :: its, ρ, σ, hl, S, h => by
    show St K B F (DL.setItms is its (ρ.set i (.ow false c))) (setVs is vs (σ.set i (some v))) H
    refine St.setItms (by simpa using hl) (S.set_ow' h.1) (ItmR.slots (fun j c e a ha no k hk z => ?_) h.2.2)
    by_cases q : i = k
    · subst q
      by_cases hi : i < ρ.length
      · rw [List.getElem?_set_self (by rw [S.len]; exact hi)] at z
        have : v = .ref a := by simpa using z
        exact h.2.1 j c e (by rw [ha, this])
      · rw [List.set_eq_of_length_le (by omega)] at hk
        rw [List.set_eq_of_length_le (by rw [S.len]; omega)] at z
        exact no i hk z
    · rw [getD_set_ne q] at hk
      rw [List.getElem?_set_ne q] at z
      exact no k hk z
  | [], _, _ :: _, _, _, hl, _, _ => by simp at hl
  | _ :: _, _, [], _, _, hl, _, _ => by simp at hl
  | [], _ :: _, [], _, _, _, _, h => by simp [ItmR] at h
  | _ :: _, [], _ :: _, _, _, _, _, h => by simp [ItmR] at h
end
def mNil : DM := fun ρ _ K => K [] ρ
def mD (de : DE) (dm : DM) : DM := fun ρ X K => de ρ X fun x ρ1 => dm ρ1 X fun its ρ2 => K (.d x :: its) ρ2
def mN (dn : NE) (dm : DM) : DM := fun ρ X K => dn ρ X fun c ρ1 => dm ρ1 X fun its ρ2 => K (.c c :: its) ρ2
def dPar (is : List Nat) (dm : DM) : DS := fun ρ P => dm ρ P.ex fun its ρ1 => is.length = its.length ∧ P.nx (setItms is its ρ1)
section
variable {X : Cx} {W : WX} {a b c e : Expr} {de : DE} {dn : NE} {dm : DM} {es : List Expr} {pos : Pos}
theorem mono_dPar {is : List Nat} (m : MonoM dm) : MonoS (dPar is dm) := ⟨fun le h => m.go le.ex (fun its ρ h => ⟨h.1, le.nx _ h.2⟩) h⟩
theorem pm_nil : PM X W [] mNil := ⟨⟨fun hx hk h => hk _ _ h⟩, PA.imp pa_nil fun σ H Q ⟨B, F, ρ, S, h⟩ => h [] F H (Ex.refl _) S trivial⟩
theorem pm_d (h1 : PD X W a de) (h2 : PM X W es dm) (hs : starEach (a :: es) X.env = (false, eval a X.env) :: starEach es X.env := by rfl) : PM X W (a :: es) (mD de dm) :=
  ⟨⟨fun hx hk h => h1.mono.go hx (fun x ρ h => h2.mono.go hx (fun xs ρ h => hk _ _ h) h) h⟩, PA.imp (pa_cons h1.run h2.run hs) fun σ H Q ⟨B, F, ρ, S, h⟩ => liftE.of h1.mono (Ex.refl _) S h fun x ρ1 h v F1 H1 e1 S1 r1 =>
    liftM.of h2.mono e1 S1 h fun xs ρ2 h vs F2 H2 e2 S2 r2 => h (v :: vs) F2 H2 (e1.trans e2) S2 ⟨r1.mono e2, r2⟩⟩
theorem pm_n (h1 : PN X W a dn) (h2 : PM X W es dm) (hs : starEach (a :: es) X.env = (false, eval a X.env) :: starEach es X.env := by rfl) : PM X W (a :: es) (mN dn dm) :=
  ⟨⟨fun hx hk h => h1.mono.go hx (fun x ρ h => h2.mono.go hx (fun xs ρ h => hk _ _ h) h) h⟩, PA.imp (pa_cons h1.run h2.run hs) fun σ H Q ⟨B, F, ρ, S, h⟩ => liftN.of h1.mono (Ex.refl _) S h fun c ρ1 h v F1 H1 e1 S1 n => by
    obtain ⟨p, rfl, ⟨nf, ng, o, ho, hc⟩, h0, no⟩ := n.ex
    have f0 : B.F0 p = none := fresh_back S1.ge nf
    have S1' := S1.prot ho nf no (fun ps z => hc.noTb (.inl ⟨ps, z⟩))
    refine liftM.of h2.mono e1 S1' (h2.mono.go (fun x ρ h => xl_prot ng f0 hc.noTup h) (fun _ _ h => h) h) fun its ρ2 h vs F2 H2 e2 S2 r2 => ?_
    obtain ⟨S3, hp, fp, no3⟩ := S2.unprot ng f0 hc.noTup
    obtain ⟨r3, nn⟩ := r2.unprot
    exact h (.ref p :: vs) F2 H2 (e1.trans e2) S3 ⟨⟨p, rfl, ⟨fp, ng, o, hp, hc.mono e2⟩, h0, no3⟩, nn, r3⟩⟩
theorem len2 {α : Type} {xs : List α} (h : xs.length = 2) : ∃ a b, xs = [a, b] := by
  match xs, h with
  | [a, b], _ => exact ⟨a, b, rfl⟩
theorem len3 {α : Type} {xs : List α} (h : xs.length = 3) : ∃ a b c, xs = [a, b, c] := by
  match xs, h with
  | [a, b, c], _ => exact ⟨a, b, c, rfl⟩
theorem pds_par2 {i j : Nat} {x y : Str} {px py pt : Pos} {kt k2 pt2} (hc : X.calm = true) (hN : X.N.Nodup) (hi : X.N[i]? = some x) (hj : X.N[j]? = some y) (hij : i ≠ j)
    (hx : X.env.scope.names.lookup x = some .local) (hy : X.env.scope.names.lookup y = some .local) (ha : PM X W [a, b] dm)
    (hw : swappedStores [.Tuple [.Name x px, .Name y py] kt pt] (.Tuple [a, b] k2 pt2) X.env = pure (some [x, y]))
    (hs : swapsWithSole [.Tuple [.Name x px, .Name y py] kt pt] (.Tuple [a, b] k2 pt2) pos.line X.env = pure false := by rfl) : PDS X W (.Assign [.Tuple [.Name x px, .Name y py] kt pt] (.Tuple [a, b] k2 pt2) pos) (dPar [i, j] dm) :=
  ⟨mono_dPar ha.mono, PS.imp (ps_par hc hN hi hj hij hx hy ha.run hw hs) fun D σ H ⟨B, F, ρ, S, h⟩ => ⟨B, F, ρ, S, ha.mono.go ex_xl (fun its ρ1 h vs F1 H1 e1 S1 r1 => by
    obtain ⟨hl, h⟩ := h
    obtain ⟨v, w, rfl⟩ := len2 (by rw [r1.length, ← hl]; rfl)
    exact ⟨v, w, rfl, h F1 _ H1 e1 (S1.setItms hl r1)⟩) h⟩⟩
theorem pds_par3 {i j l : Nat} {x y z : Str} {px py pz pt : Pos} {kt k2 pt2} (hc : X.calm = true) (hN : X.N.Nodup) (hi : X.N[i]? = some x) (hj : X.N[j]? = some y) (hl : X.N[l]? = some z) (hij : i ≠ j) (hil : i ≠ l) (hjl : j ≠ l)
    (hx : X.env.scope.names.lookup x = some .local) (hy : X.env.scope.names.lookup y = some .local) (hz : X.env.scope.names.lookup z = some .local) (ha : PM X W [a, b, c] dm)
    (hw : swappedStores [.Tuple [.Name x px, .Name y py, .Name z pz] kt pt] (.Tuple [a, b, c] k2 pt2) X.env = pure (some [x, y, z]))
    (hs : swapsWithSole [.Tuple [.Name x px, .Name y py, .Name z pz] kt pt] (.Tuple [a, b, c] k2 pt2) pos.line X.env = pure false := by rfl) : PDS X W (.Assign [.Tuple [.Name x px, .Name y py, .Name z pz] kt pt] (.Tuple [a, b, c] k2 pt2) pos) (dPar [i, j, l] dm) :=
  ⟨mono_dPar ha.mono, PS.imp (ps_par3 hc hN hi hj hl hij hil hjl hx hy hz ha.run hw hs) fun D σ H ⟨B, F, ρ, S, h⟩ => ⟨B, F, ρ, S, ha.mono.go ex_xl (fun its ρ1 h vs F1 H1 e1 S1 r1 => by
    obtain ⟨hl, h⟩ := h
    obtain ⟨v, w, u, rfl⟩ := len3 (by rw [r1.length, ← hl]; rfl)
    exact ⟨v, w, u, rfl, h F1 _ H1 e1 (S1.setItms hl r1)⟩) h⟩⟩
/-- the targets names, by way of a tuple -/
structure PNs (X : Cx) (tgs : List Expr) (is : List Nat) (g : TGs) : Prop where
  pg : PGs X tgs g
  run : ∀ vs σ H Q, vs.length = is.length → Q (setVs is vs σ) H → g vs σ H Q
theorem pns_nil : PNs X [] [] gNil := ⟨pgs_nil, fun vs σ H Q hl q => by
  have : vs = [] := List.length_eq_zero_iff.mp hl
  subst this
  exact ⟨rfl, q⟩⟩
theorem pns_cons {i : Nat} {is : List Nat} {x : Str} {p : Pos} {tgs : List Expr} {g : TGs} (h : PNs X tgs is g) (hN : X.N.Nodup) (hi : X.N[i]? = some x) (hx : Loc X.env.scope x) (hf : X.fn x = true ∨ X.env.scope.names.lookup x = some .local := by first | exact .inl rfl | exact .inr rfl | assumption)
    (hs : (assignEach (.Name x p :: tgs) X.env).map (·.2) = assign (.Name x p) X.env :: (assignEach tgs X.env).map (·.2) := by rfl) : PNs X (.Name x p :: tgs) (i :: is) (gCons (gName i) g) :=
  ⟨pgs_cons (pg_name hN hi hx hf) h.pg hs, fun vs σ H Q hl q => by
    cases vs with
    | nil => simp at hl
    | cons v vs => exact ⟨v, vs, rfl, h.run vs _ H Q (by simpa using hl) q⟩⟩
theorem pds_parT {tgs : List Expr} {is : List Nat} {g : TGs} {kt : Nat} {pt : Pos} {x1} {p2 : Pos} {n : Nat} (hc : X.calm = true) (hl : is.length = n) (hn4 : n ≤ 1000) (hg : PNs X tgs is g) (ha : PM X W es dm) (hs : swapsWithSole [.Tuple tgs kt pt] (.Tuple es x1 p2) pos.line X.env = pure false := by rfl) (hw : swappedStores [.Tuple tgs kt pt] (.Tuple es x1 p2) X.env = pure none := by rfl)
    (h1 : (assignEach [.Tuple tgs kt pt] X.env).map (·.2) = [assign (.Tuple tgs kt pt) X.env] := by rfl) (hn : (assignEach tgs X.env).length = n := by rfl) (hst : (assignEach tgs X.env).findIdx? (·.1) = none := by rfl) :
    PDS X W (.Assign [.Tuple tgs kt pt] (.Tuple es x1 p2) pos) (dPar is dm) :=
  ⟨mono_dPar ha.mono, PS.imp (ps_asg (pe_tup ha.run) (pg_tup hc hg.pg hn hst) hs hw h1) fun D σ H ⟨B, F, ρ, S, h⟩ => ⟨B, F, ρ, S, ha.mono.go ex_xl (fun its ρ1 h vs F1 H1 e1 S1 r1 => by
    obtain ⟨hl2, h⟩ := h
    have hvl : vs.length = n := by rw [r1.length, ← hl2, hl]
    refine ⟨by rw [hvl, sizeLine_eq]; omega, fun p hp => ?_⟩
    obtain ⟨S2, fp, gp, h0⟩ := S1.keepNew (o := .tup vs) hp
    refine ⟨p, vs, rfl, .inl (.inl upd_same), hvl, hg.run vs _ _ _ (by rw [hvl, hl]) ?_⟩
    refine h F1 _ _ e1 (S2.setItms hl2 ?_)
    have up : ∀ {vs : List V} {its : List Itm} {w : List V}, ItmR X.K B F1 ρ1 σ H1 vs its → ItmR X.K B F1 ρ1 σ (upd H1 p (.tup w)) vs its := by
      intro vs its w
      induction vs generalizing its with
      | nil => intro h; cases its <;> exact h
      | cons v vs ih =>
        intro h
        cases its with
        | nil => exact h
        | cons i its =>
          cases i with
          | d x => exact ⟨h.1, ih h.2⟩
          | c c =>
            obtain ⟨n, no, h⟩ := h
            obtain ⟨a, rfl, ow, h0, no2⟩ := n.ex
            obtain ⟨o, ho, hc⟩ := ow.ob
            have q : a ≠ p := ne_of_none ho hp
            exact ⟨⟨a, rfl, ow.up q, h0, no2⟩, no, ih h⟩
    exact up r1) h⟩⟩
end
end DL
set_option Elab.async false
set_option linter.all false
set_option maxRecDepth 100000
set_option maxHeartbeats 1000000
/-! DL21: dict comprehensions, the keys ints or texts. -/
namespace DL
open PySem L2 Evl
variable [Tbs]
theorem St.reprot {K : PySem.W.Frag} {B : Base} {F : Hp} {ρ : Env} {σ : L2.St} {H : Hp} {p : Addr} {o o' : HO} {c : Ct} (S : St K (B.prot p o) F ρ σ H) (gp : B.G p = none) (f0 : B.F0 p = none) (h0 : B.H0 p = none) (nt : ∀ vs, o ≠ .tup vs) (hc : CtR K F p o' c) (nb : ¬ isTb o := by intro z; rcases z with ⟨_, z⟩ | ⟨_, _, z⟩ <;> first | cases z | (unfold LamX.CodeO at z; cases z)) : H p = some o ∧ St K (B.prot p o') F ρ σ (upd H p o') := by
  obtain ⟨hp, S1, n⟩ := takeUp S gp f0 h0 nt hc nb
  obtain ⟨a, e, ow, _, no⟩ := n.ex
  cases e
  exact ⟨hp, S1.prot upd_same ow.nf no (fun ps z => hc.noTb (.inl ⟨ps, z⟩))⟩
theorem dPut_length {κ : Type} [DecidableEq κ] (kvs : List (κ × D)) (k : κ) (v : D) : (dPut kvs k v).length ≤ kvs.length + 1 := by
  unfold dPut
  split
  · rw [List.length_map]; omega
  · rw [List.length_append, List.length_cons, List.length_nil]; omega
def dcL (dg : DG) (dt : DT) (dk dv : DE) (vs : List Nat) : List D → List (Key × D) → Env → (List (Key × D) → Env → Prop) → Prop
  | [], acc, ρ, K => K acc ρ
  | d :: ds, acc, ρ, K => dg d ρ fun ρ1 => dt ρ1 X0 fun b ρ2 => if b = true then dk ρ2 X0 fun k ρ3 => dv ρ3 X0 fun v ρ4 => ofS k.key fun kk => dcL dg dt dk dv vs ds (dPut acc kk v) (wipeE vs ρ4) K else dcL dg dt dk dv vs ds acc (wipeE vs ρ2) K
def nDC (di : DI) (dg : DG) (dt : DT) (dk dv : DE) (vs : List Nat) : NE := fun ρ X K => di ρ X fun ds ρ1 => ds.length ≤ 1000000 ∧ dcL dg dt dk dv vs ds [] (wipeE vs ρ1) fun acc ρ2 => K (.dct acc) (restE vs ρ1 (wipeE vs ρ2))
section
variable {X : Cx} {W : WX} {a b c e elt tg it kx vx : Expr} {dk dv : DE} {dt : DT} {di : DI} {es ifs : List Expr} {pos p : Pos}
theorem mono_dcL {dg : DG} {vs : List Nat} (mg : MonoG dg) (mt : MonoT dt) (mk : MonoE dk) (mv : MonoE dv) : ∀ {ds : List D} {acc : List (Key × D)} {ρ : Env} {K K' : List (Key × D) → Env → Prop}, (∀ xs ρ, K xs ρ → K' xs ρ) → dcL dg dt dk dv vs ds acc ρ K → dcL dg dt dk dv vs ds acc ρ K'
  | [], _, _, _, _, hk, h => hk _ _ h
  | d :: ds, acc, ρ, K, K', hk, h => mg.go (fun ρ h => mt.go (fun _ _ h => h) (fun b ρ h => by
    cases b with
    | true => exact mk.go (fun _ _ h => h) (fun y ρ h => mv.go (fun _ _ h => h) (fun v ρ h => ofS.mono (fun kk h => mono_dcL mg mt mk mv hk h) h) h) h
    | false => exact mono_dcL mg mt mk mv hk h) h) h
theorem mono_nDC {dg : DG} {vs : List Nat} (mi : MonoI di) (mg : MonoG dg) (mt : MonoT dt) (mk : MonoE dk) (mv : MonoE dv) : MonoN (nDC di dg dt dk dv vs) := ⟨fun hx hk h => mi.go hx (fun ds ρ h => ⟨h.1, mono_dcL mg mt mk mv (fun xs ρ h => hk _ _ h) h.2⟩) h⟩
theorem dc_turn {dg : DG} {g : TG} {is vs : List Nat} {Xb : Cx} (hK : Xb.K = X.K) (hg : PDG Xb tg g dg is) (mt : MonoT dt) (mk : MonoE dk) (mv : MonoE dv) (his : ∀ j ∈ is, j ∈ vs) {B B' : Base} {F F1 : Hp} {ρ1 : Env} {σ : L2.St} {H1 : Hp} {J : It} {ds : List D} {Q : VK}
    (l : B.Le B') (e1 : Ex F F1) (S1 : St X.K B' F1 ρ1 σ H1) (Y : Yld X.K B'.G F1 J ds) (h : ds.length ≤ 1000000 ∧ dcL dg dt dk dv vs ds [] (wipeE vs ρ1) fun acc ρ2 => ∀ v F' H', Ex F F' → St X.K B F' (restE vs ρ1 (wipeE vs ρ2)) σ H' → NwR X.K B F' (restE vs ρ1 (wipeE vs ρ2)) σ H' v (.dct acc) → Q v H') :
    ∀ D, H1 D = none → ∃ W' : Nat → Nat → Hp → Prop, (∃ m, W' 0 m (upd H1 D (.dK []))) ∧ ∀ i m H, W' i m H →
      (J.stop i H ∧ Q (.ref D) H) ∨ (J.go i H ∧ ∃ Nx : Hp → Prop, (∀ H', Nx H' → ∃ m', m' < m ∧ W' (i + 1) m' H') ∧ ∀ x H', J.yld i H x H' → g x (wipe σ vs) H' fun σ2 H2 => wipe σ2 vs = wipe σ vs ∧ liftT X.K W0 dt σ2 H2 fun b H3 =>
        if b = true then liftE X.K W0 dk σ2 H3 fun y H4 => liftE X.K W0 dv σ2 H4 fun z H5 => ∃ kvs k, y = kV k ∧ H5 D = some (.dK kvs) ∧ kvs.length < sizeLine ∧ Nx (upd H5 D (.dK (putK kvs k z))) else Nx H3) := by
  intro Dl hD
  obtain ⟨hz, h⟩ := h
  have S1w := S1.wiped vs
  obtain ⟨S2, gD, f0D, h0D⟩ := aside S1w hD (o := .dK []) (fun _ z => nomatch z)
  have wip : ∀ {ρ : Env}, ∀ j ∈ vs, isOw ((wipeE vs ρ).getD j .un) = false := fun {ρ} j hj => by rw [wipeE_at, if_pos hj]; rfl
  refine ⟨fun i m H' => ∃ (F' : Hp) (ρ' : Env) (acc : List (Key × D)) (accV : List (Key × V)), Ex F1 F' ∧ St X.K (B'.prot Dl (.dK accV)) F' ρ' (wipe σ vs) H' ∧ KReps X.K F' accV acc ∧ acc.length ≤ i ∧ (∀ j ∈ vs, isOw (ρ'.getD j .un) = false) ∧ m = ds.length - i ∧ i ≤ ds.length ∧
    dcL dg dt dk dv vs (ds.drop i) acc ρ' fun acc ρ2 => ∀ v F' H', Ex F F' → St X.K B F' (restE vs ρ1 (wipeE vs ρ2)) σ H' → NwR X.K B F' (restE vs ρ1 (wipeE vs ρ2)) σ H' v (.dct acc) → Q v H', ?_, ?_⟩
  · exact ⟨ds.length, F1, wipeE vs ρ1, [], [], Ex.refl _, S2, .nil, Nat.le_refl _, wip, rfl, Nat.zero_le _, h⟩
  · rintro i m H' ⟨F', ρ', acc, accV, e', S', rA, hla, hwp, rfl, hi', h'⟩
    obtain ⟨y1, y2, y3⟩ := Y (B'.prot Dl (.dK accV)) F' ρ' (wipe σ vs) H' (Ex.new gD) e' S'
    by_cases hlt : i < ds.length
    · have hd : ds.drop i = ds[i] :: ds.drop (i + 1) := List.drop_eq_getElem_cons hlt
      rw [hd] at h'
      refine .inr ⟨y1 i hlt, fun H2 => ∃ (F' : Hp) (ρ' : Env) (acc : List (Key × D)) (accV : List (Key × V)), Ex F1 F' ∧ St X.K (B'.prot Dl (.dK accV)) F' ρ' (wipe σ vs) H2 ∧ KReps X.K F' accV acc ∧ acc.length ≤ i + 1 ∧ (∀ j ∈ vs, isOw (ρ'.getD j .un) = false) ∧
        dcL dg dt dk dv vs (ds.drop (i + 1)) acc ρ' fun acc ρ2 => ∀ v F' H', Ex F F' → St X.K B F' (restE vs ρ1 (wipeE vs ρ2)) σ H' → NwR X.K B F' (restE vs ρ1 (wipeE vs ρ2)) σ H' v (.dct acc) → Q v H',
        fun H2 ⟨F2, ρ2, acc2, accV2, e2, S2, r2, l2, w2, h2⟩ => ⟨ds.length - (i + 1), by omega, F2, ρ2, acc2, accV2, e2, S2, r2, l2, w2, rfl, hlt, h2⟩, fun x H3 y => ?_⟩
      obtain ⟨F3, e3, S3, r3⟩ := y3 i ds[i] x H3 (by simp [hlt]) y
      have S3 : St Xb.K (B'.prot Dl (.dK accV)) F3 ρ' (wipe σ vs) H3 := by rw [hK]; exact S3
      have r3 : Rep Xb.K F3 x ds[i] := by rw [hK]; exact r3
      refine hg.run S3 r3 h' fun ρ4 h4 F4 σ4 H4 e4 l4 o4 S4 => ?_
      have S4 : St X.K (B'.prot Dl (.dK accV)) F4 ρ4 σ4 H4 := by rw [← hK]; exact S4
      have w4 : wipe σ4 vs = wipe σ vs := by
        have := wipe_eq (σ := wipe σ vs) (σ2 := σ4) (vs := vs) l4 fun j hj => o4 j fun z => hj (his j z)
        rw [this, wipe_wipe]
      refine ⟨w4, liftT.of (W := W0) (F0 := F4) mt (Ex.refl _) S4 (mt.go (fun _ _ h => h.elim) (fun _ _ h => h) h4) fun t ρ5 h5 F5 H5 e5 S5 => ?_⟩
      cases t with
      | false =>
        have S6 := S5.wiped vs
        rw [w4] at S6
        exact ⟨F5, _, acc, accV, ((e'.trans e3).trans e4).trans e5, S6, rA.mono ((e3.trans e4).trans e5), by omega, wip, h5⟩
      | true =>
        refine liftE.of (W := W0) (F0 := F5) mk (Ex.refl _) S5 (mk.go (fun _ _ h => h.elim) (fun _ _ h => h) h5) fun kk ρ6 h6 u F6 H6 e6 S6 r6 => ?_
        refine liftE.of (W := W0) (F0 := F6) mv (Ex.refl _) S6 (mv.go (fun _ _ h => h.elim) (fun _ _ h => h) h6) fun z ρ7 h7 w F7 H7 e7 S7 r7 => ?_
        obtain ⟨k, ek, h7⟩ := ofS.eq h7
        have eB := (((e3.trans e4).trans e5).trans e6).trans e7
        have rA' := rA.mono eB
        have S8 := S7.wiped vs
        rw [w4] at S8
        have hc : ∀ p, CtR X.K F7 p (.dK (putK accV k w)) (.dct (dPut acc k z)) := fun _ => ⟨_, rfl, rA'.put r7⟩
        obtain ⟨hp, S9⟩ := S8.reprot gD f0D h0D (fun _ z => nomatch z) (hc _)
        refine ⟨accV, k, key_rep r6 ek, hp, ?_, F7, _, dPut acc k z, putK accV k w, e'.trans eB, S9, rA'.put r7, ?_, wip, h7⟩
        · rw [rA.length]
          have : acc.length ≤ 1000000 := by omega
          have h2 : (1000000 : Nat) < sizeLine := by rw [sizeLine_eq]; decide
          omega
        · have := dPut_length acc k z
          omega
    · have e : i = ds.length := by omega
      subst e
      rw [List.drop_length] at h'
      refine .inl ⟨y2, ?_⟩
      obtain ⟨S7, hD7, fD7, no7⟩ := S'.unprot gD f0D fun _ z => (nomatch z)
      have S7w := S7.wiped vs
      rw [wipe_wipe] at S7w
      have S8 := S1.rest vs e' S7w fun j hj => by rw [wipeE_at, if_pos hj]; rfl
      refine h' _ F' H' (e1.trans e') (S8.weaken l) (NwR.weaken l ⟨Dl, rfl, ⟨fD7, gD, .dK accV, hD7, accV, rfl, rA⟩, h0D, fun j hj z => ?_⟩)
      rw [restE_at (by rw [wipeE_length, ← S7.len, wipe_length, S1.len])] at hj
      by_cases q : j ∈ vs
      · rw [if_pos q] at hj
        cases hs2 : gt ρ1 j <;> rw [hs2] at hj <;> cases hj
      · rw [if_neg q, wipeE_at, if_neg q] at hj
        exact no7 j hj (by rw [wipe_at q]; exact z)
theorem pn_dc {dg : DG} {g : TG} {is vs : List Nat} {scope : Scope} {own : List (Str × Nat)} (hc : X.calm = true) (hN : X.N.Nodup) (hi : PDI X W tg it di) (ok : BlkOk X.N X.env.scope scope own) (hv : own.map (·.2) = vs)
    (hg : ∀ (s : Shared) (H : Hp) (C : Addr) (cl : List (Str × Addr)) (fp : List Addr), PDG (X.blk s H scope (compEnvC scope cl C X.env) fp) tg g dg is) (his : ∀ j ∈ is, j ∈ vs)
    (ht : ∀ (s : Shared) (H : Hp) (C : Addr) (cl : List (Str × Addr)) (fp : List Addr), PDTs (X.blk s H scope (compEnvC scope cl C X.env) fp) W0 ifs dt)
    (hk : ∀ (s : Shared) (H : Hp) (C : Addr) (cl : List (Str × Addr)) (fp : List Addr), PD (X.blk s H scope (compEnvC scope cl C X.env) fp) W0 kx dk)
    (he : ∀ (s : Shared) (H : Hp) (C : Addr) (cl : List (Str × Addr)) (fp : List Addr), PD (X.blk s H scope (compEnvC scope cl C X.env) fp) W0 vx dv) (hs : ∀ x, foldedSetIterable it X.env x = pure x := by intro _; rfl) :
    PN X W (.DictComp kx vx [⟨tg, it, ifs, 0⟩] scope pos) (nDC di dg dt dk dv vs) := by
  subst hv
  have mg := (hg X.s_0 X.H_0 0 [] []).mono
  have mt := (ht X.s_0 X.H_0 0 [] []).mono
  have mk := (hk X.s_0 X.H_0 0 [] []).mono
  have me := (he X.s_0 X.H_0 0 [] []).mono
  exact ⟨mono_nDC hi.mono mg mt mk me, PE.imp (pe_dc (pos := pos) hc hN hi.run ok (fun s H C cl fp => (hg s H C cl fp).pg) (fun s H C cl fp => (ht s H C cl fp).run) (fun s H C cl fp => (hk s H C cl fp).run) (fun s H C cl fp => (he s H C cl fp).run) hs)
    fun σ H Q ⟨B, F, ρ, S, h⟩ => ⟨B, F, ρ, S, hi.mono.go (fun _ _ h => h) (fun ds ρ1 h J B' F1 H1 l e1 S1 Y => dc_turn (Xb := X.blk X.s_0 X.H_0 scope (compEnvC scope [] 0 X.env) []) rfl (hg _ _ _ _ _) mt mk me his l e1 S1 Y h) h⟩⟩
end
end DL
set_option Elab.async false
set_option linter.all false
set_option maxRecDepth 100000
set_option maxHeartbeats 1000000
/-! DL22: instances: made, their fields read and set. -/
namespace DL
open PySem L2 Evl
variable [Tbs]
theorem getD_snoc_lt {ρ : Env} {s : Sl} {i : Nat} (h : i < ρ.length) : (ρ ++ [s]).getD i .un = ρ.getD i .un := by
  simp [List.getD, List.getElem?_append_left h]
theorem getD_snoc_eq {ρ : Env} {s : Sl} : (ρ ++ [s]).getD ρ.length .un = s := by
  simp [List.getD]
theorem getD_snoc_gt {ρ : Env} {s : Sl} {i : Nat} (h : ρ.length < i) : (ρ ++ [s]).getD i .un = .un := by
  rw [List.getD, List.getElem?_eq_none (by simp; omega)]; rfl
section
variable {K : PySem.W.Frag} {B : Base} {F F' : Hp} {ρ : Env} {σ : L2.St} {H H' : Hp}
theorem St.snoc {v : V} {c : Ct} (S : St K B F ρ σ H) (n : NwR K B F ρ σ H v c) : St K B F (ρ ++ [.ow false c]) (σ ++ [some v]) H := by
  obtain ⟨a, rfl, ow, h0, no⟩ := n.ex
  have σlt : ∀ {i : Nat}, i < ρ.length → (σ ++ [some (.ref a)])[i]? = σ[i]? := fun {i} h => List.getElem?_append_left (by rw [S.len]; exact h)
  have σeq : (σ ++ [some (V.ref a)])[ρ.length]? = some (some (.ref a)) := by rw [← S.len]; simp
  refine ⟨S.ex, S.out, S.new, S.ge, S.thr, by simp [S.len], fun i => ?_, fun i j b h1 h2 e1 e2 => ?_, S.tb⟩
  · by_cases q : i < ρ.length
    · rw [getD_snoc_lt q, σlt q]; exact S.sl i
    · by_cases q2 : i = ρ.length
      · subst q2
        rw [getD_snoc_eq]
        exact ⟨a, σeq, ow, fun _ => h0, fun z => by cases z⟩
      · rw [getD_snoc_gt (by omega)]; trivial
  · have key : ∀ k, isOw ((ρ ++ [Sl.ow false c]).getD k .un) = true → k = ρ.length ∨ (k < ρ.length ∧ isOw (ρ.getD k .un) = true) := fun k hk => by
      by_cases q : k < ρ.length
      · rw [getD_snoc_lt q] at hk; exact .inr ⟨q, hk⟩
      · by_cases q2 : k = ρ.length
        · exact .inl q2
        · rw [getD_snoc_gt (by omega)] at hk; cases hk
    rcases key i h1 with rfl | ⟨q1, o1⟩
    · rcases key j h2 with rfl | ⟨q2, o2⟩
      · rfl
      · rw [σeq] at e1
        have : a = b := by simpa using e1
        subst this
        rw [σlt q2] at e2
        exact absurd e2 (no j o2)
    · rcases key j h2 with rfl | ⟨q2, o2⟩
      · rw [σeq] at e2
        have : a = b := by simpa using e2
        subst this
        rw [σlt q1] at e1
        exact absurd e1 (no i o1)
      · rw [σlt q1] at e1
        rw [σlt q2] at e2
        exact S.own i j b o1 o2 e1 e2
theorem St.unsnoc {v : V} {s : Sl} (S : St K B F (ρ ++ [s]) (σ ++ [some v]) H) (hl : σ.length = ρ.length) : St K B F ρ σ H ∧ ∀ c, s = .ow false c → NwR K B F ρ σ H v c := by
  have σlt : ∀ {i : Nat}, i < ρ.length → (σ ++ [some v])[i]? = σ[i]? := fun {i} h => List.getElem?_append_left (by rw [hl]; exact h)
  have σeq : (σ ++ [some v])[ρ.length]? = some (some v) := by rw [← hl]; simp
  have lt : ∀ {k : Nat}, isOw (ρ.getD k .un) = true → k < ρ.length := fun {k} h => lt_of_getD h
  have up : ∀ {k : Nat}, isOw (ρ.getD k .un) = true → isOw ((ρ ++ [s]).getD k .un) = true := fun {k} h => by rw [getD_snoc_lt (lt h)]; exact h
  refine ⟨⟨S.ex, S.out, S.new, S.ge, S.thr, hl, fun i => ?_, fun i j b h1 h2 e1 e2 => ?_, S.tb⟩, fun c hs => ?_⟩
  · by_cases q : i < ρ.length
    · have := S.sl i
      rw [getD_snoc_lt q] at this
      have s2 := this
      cases hi : ρ.getD i .un with
      | un => trivial
      | fz d => rw [hi, σlt q] at s2; exact s2
      | ow b c =>
        rw [hi, σlt q] at s2
        exact s2
    · rw [show ρ.getD i .un = .un by rw [List.getD, List.getElem?_eq_none (by omega)]; rfl]; trivial
  · exact S.own i j b (up h1) (up h2) (by rw [σlt (lt h1)]; exact e1) (by rw [σlt (lt h2)]; exact e2)
  · subst hs
    have s2 := S.sl ρ.length
    rw [getD_snoc_eq, σeq] at s2
    obtain ⟨a, e1, ow, h0, _⟩ := s2
    have e1 : v = .ref a := by simpa using e1
    subst e1
    refine ⟨a, rfl, ow, h0 rfl, fun i hi z => ?_⟩
    have := S.own i ρ.length a (up hi) (by rw [getD_snoc_eq]; rfl) (by rw [σlt (lt hi)]; exact z) σeq
    have := lt hi
    omega
end
/-- C(..): the instance, as its __init__ leaves it -/
def nMake (C : Addr) (n : Nat) (dc : DC) (das : DAs) : NE := fun ρ X K => das ρ X fun as ρ1 => allD as fun ds => ds.length + 1 = n ∧ dc (.ow true (.ins C [] []) :: ds.map .fz) (fun _ _ => False) fun r outs => r = .d .none ∧ match outs with
  | .ow _ c :: _ => K c ρ1
  | _ => False
theorem argsOf_d {ρ : Env} : ∀ (ds : List D), argsOf ρ (ds.map .d) = ds.map .fz
  | [] => rfl
  | d :: ds => by rw [List.map_cons, argsOf, argsOf_d ds]; rfl
theorem putOuts_d {ρ : Env} : ∀ (ds : List D) (os : List Sl), putOuts (ds.map .d) os ρ = ρ
  | [], [] => rfl
  | [], _ :: _ => rfl
  | d :: ds, [] => rfl
  | d :: ds, o :: os => by rw [List.map_cons, putOuts, putOuts_d ds os]
theorem borOk_d {ρ : Env} : ∀ (ds : List D), borOk ρ (ds.map .d) = true
  | [] => rfl
  | d :: ds => by rw [List.map_cons, borOk, borOk_d ds]
theorem avR_d {K : PySem.W.Frag} {F : Hp} {σ : L2.St} : ∀ {vs : List V} {ds : List D}, Reps K F vs ds → AvR K F σ vs (ds.map .d)
  | _, _, .nil => trivial
  | _, _, .cons r t => ⟨r, avR_d t⟩
section
variable {X : Cx} {W : WX} {a b c e : Expr} {da db dv : DE} {das : DAs} {es : List Expr} {pos p pos' : Pos} {dc : DC} {C : Addr}
theorem pass0 : Passes (L2.CX X.prog X.w) X (fun _ _ _ => False) := fun pins σ H s e s' I c => passAt (W := W0) takes0 σ pins H s e s' I c
theorem mono_nMake {n : Nat} (m : MonoC dc) (ma : MonoA das) : MonoN (nMake C n dc das) := ⟨fun hx hk h => ma.go hx (fun as ρ h => allD.mono (fun ds h => ⟨h.1, m.go (fun _ _ h => h) (fun r outs h => ⟨h.1, by
  obtain ⟨_, h⟩ := h
  revert h
  cases outs with
  | nil => exact fun h => h
  | cons o os =>
    cases o with
    | un => exact fun h => h
    | fz d => exact fun h => h
    | ow b c => exact fun h => hk _ _ h⟩) h.2⟩) h) h⟩
theorem pn_make {k : Nat} {f : Addr} {fd : FuncData} {ps : List Str} {x : Str} {n : Nat} (M : Mk X.K C f) (m : MonoC dc) (F : FnOk X.prog X.w X.K X.mg X.base (L2.CX X.prog X.w) k f fd ps (spD X.K n dc)) (hr : Room (k + 1) X.A) (hg : Gl X x) (hm : X.mg x = some (.ref C)) (hb : Binds X.K fd ps [])
    (ha : PDA X W (e :: es) das) (hdb : (x == ("__debug__" : Str)) = false := by decide) (he : starEach (e :: es) X.env = (false, eval e X.env) :: starEach es X.env := by rfl) (hpl : (backTo pos (starEach es X.env)).any (·.1) = false := by rfl) :
    PN X W (.Call (.Name x p) (e :: es) [] pos) (nMake C n dc das) := by
  refine ⟨mono_nMake m ha.mono, PE.imp (pe_make M F hr hg hm hb .nil pass0 ha.run hdb he hpl) fun σ H Q ⟨B, Fz, ρ, S, h⟩ => ?_⟩
  refine liftA.of ha.mono (Ex.refl _) S h fun as ρ1 h vs F1 H1 e1 S1 r1 => ?_
  intro y dx hy hdx hne
  obtain ⟨ds, r, hn, h⟩ := allD.reps r1 h
  rw [List.append_nil]
  -- the new instance as one more slot
  obtain ⟨S2, _, _, _⟩ := S1.keepNew (o := .own y) hdx
  have hy2 : upd H1 dx (.own y) y = none := by rw [upd_ne (fun z => hne z.symm)]; exact hy
  obtain ⟨S3, nw⟩ := S2.newOw (o := .ins C dx []) (c := .ins C [] []) hy2 ⟨dx, [], rfl, rfl, .nil⟩
  have S4 := S3.snoc nw
  have av : AvR X.K F1 (σ ++ [some (V.ref y)]) (V.ref y :: vs) (.bor ρ1.length :: ds.map .d) := ⟨by rw [← S1.len]; simp, avR_d r⟩
  have hlen : ρ1.length < (ρ1 ++ [Sl.ow false (.ins C [] [])]).length := by simp
  have g1 : gt (ρ1 ++ [Sl.ow false (.ins C [] [])]) ρ1.length = .ow false (.ins C [] []) := getD_snoc_eq
  have hbo : borOk (ρ1 ++ [Sl.ow false (.ins C [] [])]) (.bor ρ1.length :: ds.map .d) = true := by
    have hb2 : (ds.map AV.d).any (isBor ρ1.length) = false := by
      rw [List.any_map, List.any_eq_false]
      intro d _
      simp [isBor]
    simp only [borOk, g1, isOw, hb2, borOk_d]
    rfl
  have hargs : argsOf (ρ1 ++ [Sl.ow false (.ins C [] [])]) (.bor ρ1.length :: ds.map .d) = .ow true (.ins C [] []) :: ds.map .fz := by
    rw [argsOf, argsOf_d, g1]; rfl
  have hput : ∀ o os, putOuts (.bor ρ1.length :: ds.map .d) (o :: os) (ρ1 ++ [Sl.ow false (.ins C [] [])]) = ρ1 ++ [lend (.ow false (.ins C [] [])) o] := fun o os => by
    rw [putOuts, putOuts_d, g1]
    simp
  refine call_data (n := n) (XX := fun _ _ => False) (KK := fun r ρ' => r = .d .none ∧ ∃ c, ρ' = ρ1 ++ [.ow false c] ∧ ∀ v F' H', Ex Fz F' → St X.K B F' ρ1 σ H' → NwR X.K B F' ρ1 σ H' v c → Q v H') (by simp [hn]) S4 av hbo m (by
    rw [hargs]
    refine m.go (fun _ _ h => h) (fun r outs h => ⟨h.1, ?_⟩) h
    obtain ⟨_, h⟩ := h
    cases outs with
    | nil => exact h.elim
    | cons o os =>
      cases o with
      | un => exact h.elim
      | fz d => exact h.elim
      | ow b c => exact ⟨c, by rw [hput]; rfl, h⟩) (fun x ρ' h => h.elim) fun r ρ' h v F' H' e' S' r' => ?_
  obtain ⟨rfl, c, rfl, h⟩ := h
  obtain ⟨S5, n5⟩ := S'.unsnoc S1.len
  have hv : v = .non := by
    cases r' with
    | d h => cases h; rfl
  exact ⟨hv, h _ F' H' (e1.trans e') S5 (n5 c rfl)⟩
/-! ### fields of one's own instance -/
def fldGet (f : Str) : List Str → List D → Option D
  | g :: lay, x :: xs => if g = f then some x else fldGet f lay xs
  | _, _ => none
def fldPut (f : Str) (y : D) : List Str → List D → List Str × List D
  | g :: lay, x :: xs => if g = f then (g :: lay, y :: xs) else let r := fldPut f y lay xs; (g :: r.1, x :: r.2)
  | _, _ => ([f], [y])
theorem fldGet_rep {K : PySem.W.Frag} {F : Hp} {f : Str} {d : D} : ∀ {fs : List (Str × V)} {xs : List D}, Reps K F (fs.map (·.2)) xs → fldGet f (fs.map (·.1)) xs = some d → ∃ v, fs.lookup f = some v ∧ Rep K F v d
  | [], _, _, h => by simp [fldGet] at h
  | (g, w) :: fs, x :: xs, .cons r t, h => by
    rw [List.map_cons, fldGet] at h
    by_cases q : g = f
    · rw [if_pos q] at h
      have h : x = d := by simpa using h
      subst h; subst q
      exact ⟨w, by simp, r⟩
    · rw [if_neg q] at h
      obtain ⟨v, e, r2⟩ := fldGet_rep (fs := fs) t h
      refine ⟨v, ?_, r2⟩
      have : (f == g) = false := beq_eq_false_iff_ne.mpr (fun z => q z.symm)
      rw [List.lookup_cons, this]; exact e
theorem fldPut_rep {K : PySem.W.Frag} {F : Hp} {f : Str} {v : V} {d : D} (r : Rep K F v d) : ∀ {fs : List (Str × V)} {xs : List D}, Reps K F (fs.map (·.2)) xs → (putF f v fs).map (·.1) = (fldPut f d (fs.map (·.1)) xs).1 ∧ Reps K F ((putF f v fs).map (·.2)) (fldPut f d (fs.map (·.1)) xs).2 ∧ (putF f v fs).length ≤ fs.length + 1
  | [], [], .nil => ⟨rfl, .cons r .nil, Nat.le_refl _⟩
  | (g, w) :: fs, x :: xs, .cons r1 t => by
    obtain ⟨h1, h2, h3⟩ := fldPut_rep r (fs := fs) t
    rw [List.map_cons, fldPut, putF]
    by_cases q : g = f
    · rw [if_pos q, if_pos q]
      exact ⟨rfl, .cons r t, by simp⟩
    · rw [if_neg q, if_neg q]
      exact ⟨by simp [h1], .cons r1 h2, by simp; omega⟩
def eFldS (C : Addr) (f : Str) (i : Nat) : DE := fun ρ _ K => owC (gt ρ i) fun _ c => match c with
  | .ins C' lay xs => C' = C ∧ ofS (fldGet f lay xs) fun d => K d ρ
  | _ => False
theorem pd_fldS {f x : Str} (i : Nat) (hc : Cls X.K C) (hn : NoAttr X.K C f) (hN : X.N[i]? = some x := by rfl) (hv : Vis X.env.scope x := by first | exact Or.inl rfl | exact Or.inr (Or.inl rfl) | exact Or.inr (Or.inr rfl)) (hd : (x == ("__debug__" : Str)) = false := by decide)
    (hcd : (x == ("__classdict__" : Str)) = false := by decide) (hb : attributeBase (.Name x p) f X.env (eval (.Name x p) X.env) = eval (.Name x p) X.env := by rfl) : PD X W (.Attribute (.Name x p) f pos) (eFldS C f i) := by
  refine ⟨⟨fun hx hk h => owC.mono (fun b c h => ?_) h⟩, PE.imp (pe_fld (pe_var (i := i) hN hv hd hcd) hb) fun σ H Q ⟨B, F, ρ, S, h⟩ => ?_⟩
  · cases c <;> try exact h.elim
    exact ⟨h.1, ofS.mono (fun d h => hk _ _ h) h.2⟩
  · obtain ⟨b, c, es, h⟩ := h.eq
    obtain ⟨a, ea, ⟨nf, ng, o, ho, hcr⟩, _⟩ := S.ow es
    cases c <;> try exact h.elim
    obtain ⟨rfl, h2⟩ := h
    obtain ⟨d, ed, h3⟩ := ofS.eq h2
    obtain ⟨dx, fs, rfl, hl, r⟩ := hcr
    subst hl
    obtain ⟨v, hv, rv⟩ := fldGet_rep r ed
    exact ⟨_, ea, a, _, dx, fs, v, rfl, ho, hc, hn, hv, h3 v F H (Ex.refl _) S rv⟩
def dFld (C : Addr) (f : Str) (i : Nat) (dv : DE) : DS := fun ρ P => dv ρ P.ex fun y ρ1 => owC (gt ρ1 i) fun b c => match c with
  | .ins C' lay xs => C' = C ∧ xs.length < 900 ∧ P.nx (ρ1.set i (.ow b (.ins C (fldPut f y lay xs).1 (fldPut f y lay xs).2)))
  | _ => False
theorem pds_fld {f x : Str} {value : Expr} (i : Nat) (hc : Cls X.K C) (hn : NoAttr X.K C f) (hv : PD X W value dv) (hN : X.N[i]? = some x := by rfl) (hvis : Vis X.env.scope x := by first | exact Or.inl rfl | exact Or.inr (Or.inl rfl) | exact Or.inr (Or.inr rfl)) (hd : (x == ("__debug__" : Str)) = false := by decide)
    (hcd : (x == ("__classdict__" : Str)) = false := by decide) (hs : swapsWith value (some (.Attribute (.Name x p) f pos')) pos.line X.env = pure false := by rfl) : PDS X W (.Assign [.Attribute (.Name x p) f pos'] value pos) (dFld C f i dv) := by
  refine ⟨⟨fun le h => hv.mono.go le.ex (fun y ρ h => owC.mono (fun b c h => ?_) h) h⟩, PS.imp (ps_fld (pe_var (i := i) hN hvis hd hcd) hv.run hs) fun D σ H ⟨B, F, ρ, S, h⟩ => liftE.ofS hv.mono S h fun y ρ1 h v F1 H1 e1 S1 r1 => ?_⟩
  · cases c <;> try exact h.elim
    exact ⟨h.1, h.2.1, le.nx _ h.2.2⟩
  · obtain ⟨b, c, es, h⟩ := h.eq
    obtain ⟨a, ea, ⟨nf, ng, o, ho, hcr⟩, _⟩ := S1.ow es
    cases c <;> try exact h.elim
    obtain ⟨rfl, hz, h⟩ := h
    obtain ⟨dx, fs, rfl, hl, r⟩ := hcr
    subst hl
    obtain ⟨q1, q2, q3⟩ := fldPut_rep (f := f) r1 r
    have hlen : fs.length < 900 := by have := r.length; rw [List.length_map] at this; omega
    exact ⟨_, ea, a, _, dx, fs, rfl, ho, hc, hn, by omega, h F1 σ _ e1 (S1.write es ea ⟨dx, _, rfl, q1, q2⟩)⟩
end
end DL
set_option Elab.async false
set_option linter.all false
set_option maxRecDepth 100000
set_option maxHeartbeats 1000000
/-! DL23: defs that show values (repr): their promise holds where nothing is being shown. -/
namespace DL
open PySem L2 Evl PySem.Spec PyProof.Rows
variable [Tbs]
structure FnOkG (P : Program) (w : World) (K : PySem.W.Frag) (mg : Str → Option Value) (base : Heap) (CX : CXT) (k : Nat) (f : Addr) (fd : FuncData) (ps : List Str) (sp : Sp) : Prop where
  len : ∀ vs H Q E, sp vs H Q E → vs.length = ps.length
  run : ∀ (A : Around) (outer : List PySem.Env) (s : Shared) (H : Hp) (args : Args) (us : List Value) (vs : List V) (Q : VK) (E : XK), A.guards = some [] → Room k A → Env0 P w K mg base A outer s H → BindsTo s fd args (ps.zip us) → Vals vs us → sp vs H Q E →
    codeAny (model P w) A (.call (.ref f) args) (CR CX outer P w H s Q E) s
theorem FnOkG.of {P : Program} {w : World} {K : PySem.W.Frag} {mg : Str → Option Value} {base : Heap} {CX : CXT} {k : Nat} {f : Addr} {fd : FuncData} {ps : List Str} {sp : Sp} (F : FnOk P w K mg base CX k f fd ps sp) : FnOkG P w K mg base CX k f fd ps sp :=
  ⟨F.len, fun A outer s H args us vs Q E _ => F.run A outer s H args us vs Q E⟩
theorem FnOkG.mono {P : Program} {w : World} {K : PySem.W.Frag} {mg : Str → Option Value} {base : Heap} {CX : CXT} {j k : Nat} {f : Addr} {fd : FuncData} {ps : List Str} {sp : Sp} (F : FnOkG P w K mg base CX j f fd ps sp) (h : j ≤ k) : FnOkG P w K mg base CX k f fd ps sp :=
  ⟨F.len, fun A outer s H args us vs Q E hg hr => F.run A outer s H args us vs Q E hg (hr.mono h)⟩
/-- a def's promise from its body's -/
theorem fnG_of {CX : CXT} {P : Program} {w : World} {K : PySem.W.Frag} {mg : Str → Option Value} {base : Heap} {k : Nat} {f : Addr} {name qual : Str} {params : Arguments} {body : List Stmt} {scope : Scope} {dV kV doc pm cdv ct oc : Value} {an od : Option Addr}
    {osl : Array (Option Value)} {N ps : List Str} {sp : Sp} (lk : K.lookup f = some ⟨oc, od, .func (PySem.W.fnOf name qual params body scope dV kV doc pm an cdv ct), osl⟩) (hcd : PySem.W.codeIn K cdv qual = true) (S : FnScope N ps scope)
    (len : ∀ vs H Q E, sp vs H Q E → vs.length = ps.length)
    (hbody : ∀ (A : Around) (outer : List PySem.Env) (s : Shared) (H : Hp) (vs : List V) (Q : VK) (E : XK), (A.deeper (envOfC qual scope s.heap.objs.size f cdv)).guards = some [] → Room k (A.deeper (envOfC qual scope s.heap.objs.size f cdv)) → sp vs H Q E →
      ∃ t, PSs (cxOf CX P w K mg base N qual scope f cdv A outer s H E) body t ∧ t { nx := fun _ H' => Q .non H', rt := Q } (start N vs) H) :
    FnOkG P w K mg base CX (k + 1) f (PySem.W.fnOf name qual params body scope dV kV doc pm an cdv ct) ps sp where
  len := len
  run := fun A outer s H args us vs Q E hgd hr e0 hb r hsp => by
    have KX : K.In s.heap := e0.mod.kin.keeps fun b o e => (e0.bs b o e).1
    have par : ∀ y ∈ ps.zip us, scope.names.lookup y.1 = some .local ∨ (scope.names.lookup y.1 = some .cell ∧ ((cellsFrom (s.heap.objs.size + 1) scope.names []).lookup y.1).isSome = true) := fun ⟨n, v⟩ hy =>
      (S.par n (List.of_mem_zip hy).1).imp id fun q => ⟨q, PySem.W.cellsFrom_some _ _ _ (.inl q)⟩
    refine codeAny_call_function hr.depth (KX _ _ lk) rfl S.co S.gen rfl (PySem.W.codeRec_of KX hcd) (hb _ _ _ _ ?_)
    refine wpAny_newFunctionEnv_cells S.kind par fun env he s1 x => ?_
    subst he
    refine ⟨(e0.mod.nolimit.keeps fun b o e => (e0.bs b o e).1).keeps x.toInCall.keep, codeAny_func ?_⟩
    obtain ⟨t, ht, hq⟩ := hbody A outer s H vs Q E hgd (hr.deeper _) hsp
    have I : Inv (cxOf CX P w K mg base N qual scope f cdv A outer s H E) [] (start N vs) H s1 := inv_start S hr.hd e0 (len _ _ _ _ hsp) r x
    refine wpAny_mono (ht.run [] s1 (start N vs) H _ I hq) (fun fl s' hs => ?_) fun e s' hs => hs
    cases fl with
    | ret u =>
      obtain ⟨v, σ', H', J, rv, q⟩ := hs
      exact ⟨v, H', J.os, J.bare, J.base, J.hok, rv, q⟩
    | next =>
      obtain ⟨σ', H', J, q⟩ := hs
      exact ⟨V.non, H', J.os, J.bare, J.base, J.hok, rfl, q⟩
    | brk =>
      obtain ⟨_, _, _, q⟩ := hs
      exact q.elim
    | cont =>
      obtain ⟨_, _, _, q⟩ := hs
      exact q.elim
section
variable {X : Cx} {CX : CXT} {k : Nat} {f : Addr} {fd : FuncData} {ps : List Str} {sp : Sp} {E : L2.St → XK} {x : Str} {p pos : Pos} {e : Expr} {es : List Expr} {t : TA} {dvs : List V} {ds : List Value}
theorem run_fnG {pins : List (Addr × Obj)} {σ : L2.St} {H : Hp} {s : Shared} {Q : VK} {us : List Value} {vs : List V} (F : FnOkG X.prog X.w X.K X.mg X.base CX k f fd ps sp) (hgd : X.A.guards = some []) (hr : Room k X.A) (hb : Binds X.K fd ps ds) (hd : Vals dvs ds) (hx : PassesAt CX X σ (E σ))
    (I : Inv X pins σ H s) (r : Vals vs us) (h : sp (vs ++ dvs) H Q (E σ)) : wpAny (model X.prog X.w) X.A (call (.ref f) us) (EP X pins σ Q) X.xe s := by
  have r2 := r.append hd
  refine wpAny_call (codeAny_mono (F.run X.A X.stack s H ⟨us, []⟩ _ _ Q (E σ) hgd hr I.env0 (hb s us I.kIn (by rw [← r2.length]; exact F.len _ _ _ _ h)) r2 h) fun r s' hq => ?_)
  match r, hq with
  | .error e, hq => exact hx pins H s e s' I hq
  | .ok (.ret u), hq => exact I.after hq
theorem pe_callG (F : FnOkG X.prog X.w X.K X.mg X.base CX k f fd ps sp) (hgd : X.A.guards = some []) (hr : Room k X.A) (hg : Gl X x) (hm : X.mg x = some (.ref f)) (hk : PySem.W.keepIn X.K (.ref f) = true) (hb : Binds X.K fd ps ds) (hd : Vals dvs ds) (hx : ∀ σ, PassesAt CX X σ (E σ))
    (ha : PA X (e :: es) t) (hdb : (x == ("__debug__" : Str)) = false := by decide) (he : starEach (e :: es) X.env = (false, eval e X.env) :: starEach es X.env := by rfl) (hpl : (backTo pos (starEach es X.env)).any (·.1) = false := by rfl) :
    PE X (.Call (.Name x p) (e :: es) [] pos) (tCallSD sp dvs E t) :=
  ⟨fun pins s σ H Q I h => wpAny_Call_Name_kw (ld_glob I hg hm (PySem.W.callWith_K (h₀ := X.base) I.ok.mod.kin hk (thn (ha.run pos pins s σ H _ I h) fun us s1 ⟨vs, H1, I1, r, q⟩ => ⟨I1.kIn, run_fnG F hgd hr hb hd (hx σ) I1 r q⟩) he hpl) hdb)⟩
end
end DL
set_option Elab.async false
set_option linter.all false
set_option maxRecDepth 100000
set_option maxHeartbeats 1000000
/-! DL24: the law's call, nothing being shown. -/
namespace DL
open PySem L2 Evl PySem.Spec PyProof.Rows
variable [Tbs]
section
variable {P : Program} {w : World} {K : PySem.W.Frag} {mg mb : Str → Option Value} {CX : CXT} {k : Nat} {fa a : Addr} {fd : FuncData} {x : Str} {sp : Sp} {s₁ : Shared} {vs : List Value} {ns : List Int}
theorem law_goG (KX : K.In s₁.heap) (hns : s₁.heap.Ns mainGlobals mg) (hb : s₁.heap.Ns builtinsNs mb) (hbb : ∀ x : Str, x ≠ "__name__" → mb x = bootBuiltins x) (hlim : s₁.heap.NoLimit) (hg : s₁.gens = #[])
    (ha : s₁.heap.get? a = some { cls := .type "list", data := .seq vs.toArray }) (hr : Room k callerA)
    (F : ∀ base : Heap, K.In base → base.Ns mainGlobals mg → FnOkG P w K mg base CX k fa fd [x] sp) (hbind : ∀ (s : Shared) (u : Value), BindsTo s fd ⟨[u], []⟩ [(x, u)]) (hCX : ∀ H e s', CX [] H s₁ (fun _ _ _ => False) e s' → False)
    (H : Hp) (hO : Only H) (hsp : sp [.ref a] H (fun v _ => v = .bl true) fun _ _ _ => False) (hok : HOk P w H s₁.heap) (hA : ∀ b, H b ≠ none → b = a) (hK : H a ≠ none → K.lookup a = none) :
    codeAny (model P w) callerA (.call (.ref fa) ⟨[.ref a], []⟩) (fun r s' => r = .ok (.ret (.bool true)) ∧ OldK s₁.heap s'.heap ∧ s'.os = s₁.os ∧ AllBare s'.gens) s₁ := by
  have free : ∀ {b : Addr}, b ≠ a → H b = none := fun {b} n => by
    cases q : H b with
    | none => rfl
    | some u => exact absurd (hA b (by rw [q]; simp)) n
  have dic : ∀ {b : Addr} {o : Obj} {es : Array DictEntry} {ep : Nat}, s₁.heap.get? b = some o → o.data = .dict es ep → (hidT s₁.heap H).get? b = some o := fun {b o es ep} e d => hidT_get e (free fun z => by
    subst z
    rw [ha] at e
    cases e
    exact nomatch (show Data.seq vs.toArray _ = Data.dict es ep from d))
  have names : ∀ {b : Addr} {m : Str → Option Value}, s₁.heap.Ns b m → (hidT s₁.heap H).Ns b m := fun ⟨o, es, ep, e, d, r⟩ => ⟨o, es, ep, dic e d, d, r⟩
  have KH : K.In (hidT s₁.heap H) := fun b o e => hidT_get (KX b o e) (by
    by_cases q : b = a
    · subst q
      cases h : H b with
      | none => rfl
      | some u => rw [hK (by rw [h]; simp)] at e; cases e
    · exact free q)
  have e0 : Env0 P w K mg (hidT s₁.heap H) callerA [] s₁ H := ⟨rfl, ⟨KH, names hns, ⟨mb, names hb, hbb⟩, hlim.imp fun _ q => ⟨names q.1, q.2⟩⟩, fun _ _ e => of_hidT e, Nat.le_of_eq (hidT_size _ _), trivial, fun b hb => (List.not_mem_nil hb).elim, hok, .of_eq hg⟩
  refine codeAny_mono ((F _ KH (names hns)).run callerA [] s₁ H _ [.ref a] [.ref a] _ _ rfl hr e0 (hbind s₁ (.ref a)) (.cons rfl .nil) hsp) fun r s' h => ?_
  match r, h with
  | .error e, h => exact (hCX H e s' h).elim
  | .ok (.ret u), ⟨v, H', os, bare, un, hok', r', q⟩ =>
    obtain rfl : v = .bl true := q
    obtain rfl : u = Value.bool true := r'
    refine ⟨rfl, OldK.of_keep fun b o e => ?_, os, bare⟩
    rcases hO b with z | ⟨ob, xs, z⟩
    · exact un.keep b o e z (List.not_mem_nil) (List.not_mem_nil)
    · have e1 := (hok b _ z).1
      rw [e] at e1
      cases e1
      exact (hok' b _ (un.frzs b _ _ z)).1
theorem law_callG (KX : K.In s₁.heap) (hns : s₁.heap.Ns mainGlobals mg) (hb : s₁.heap.Ns builtinsNs mb) (hbb : ∀ x : Str, x ≠ "__name__" → mb x = bootBuiltins x) (hlim : s₁.heap.NoLimit) (hg : s₁.gens = #[])
    (ha : s₁.heap.get? a = some { cls := .type "list", data := .seq vs.toArray }) (hi : IntsAre vs ns) (hl : ns.length ≤ sizeLine) (hr : Room k callerA)
    (F : ∀ base : Heap, K.In base → base.Ns mainGlobals mg → FnOkG P w K mg base CX k fa fd [x] sp) (hbind : ∀ (s : Shared) (u : Value), BindsTo s fd ⟨[u], []⟩ [(x, u)])
    (hsp : ∀ H : Hp, Only H → SqL K H a (ns.map V.int) → sp [.ref a] H (fun v _ => v = .bl true) fun _ _ _ => False) (hCX : ∀ H e s', CX [] H s₁ (fun _ _ _ => False) e s' → False) :
    codeAny (model P w) callerA (.call (.ref fa) ⟨[.ref a], []⟩) (fun r s' => r = .ok (.ret (.bool true)) ∧ OldK s₁.heap s'.heap ∧ s'.os = s₁.os ∧ AllBare s'.gens) s₁ := by
  have go := law_goG KX hns hb hbb hlim hg ha hr F hbind hCX
  cases hk : K.lookup a with
  | some o =>
    have e := KX a o hk
    rw [ha] at e
    cases e
    have hS : SqL K (fun _ => none) a (ns.map V.int) := .inr ⟨_, vs.toArray, _, hk, rfl, rfl, rfl, by rw [List.size_toArray, hi.length]; exact hl, vals_ints hi⟩
    exact go (fun _ => none) (fun _ => .inl rfl) (hsp _ (fun _ => .inl rfl) hS) (fun b u z => by cases z) (fun b z => absurd rfl z) fun z => absurd rfl z
  | none =>
    let H : Hp := fun b => if b = a then some (.frz { cls := .type "list", data := .seq vs.toArray } (.lst (ns.map V.int))) else none
    have Ha : H a = some (.frz { cls := .type "list", data := .seq vs.toArray } (.lst (ns.map V.int))) := if_pos rfl
    have Hb : ∀ b, b ≠ a → H b = none := fun b n => if_neg n
    have hO : Only H := fun b => by
      by_cases q : b = a
      · subst q; exact .inr ⟨_, _, Ha⟩
      · exact .inl (Hb b q)
    refine go H hO (hsp H hO (.inl (.inr ⟨_, Ha⟩))) (fun b u z => ?_) (fun b z => ?_) fun _ => hk
    · by_cases q : b = a
      · subst q
        rw [Ha] at z
        cases z
        exact ⟨ha, by rw [List.length_map]; exact hl, vs, _, vals_ints hi, ha⟩
      · rw [Hb b q] at z; cases z
    · by_cases q : b = a
      · exact q
      · exact absurd (Hb b q) z
end
theorem walk_ofG {l : PySem.W.OpenLaw} {n k : Nat} {q : Program} {loose : List Str} {XP : (Str → Option Value) → Heap → Prop} {YP : World → Heap → Prop} {d : DefRec} {CX : World → CXT} {x : Str}
    (hn : l.most = some n) (hn2 : n ≤ sizeLine) (hdf : d.params.defaults = []) (hr : Room k callerA)
    (F : ∀ (w : World) (mg : Str → Option Value) (fa : Addr) (h : Heap), YP w h → h.Ns mainGlobals mg → mg d.name = some (.ref fa) →
      ∃ (K : PySem.W.Frag) (fd : FuncData) (sp : Sp), K.In h ∧ (∀ (s : Shared) (u : Value), BindsTo s fd ⟨[u], []⟩ [(x, u)]) ∧
        (∀ (H : Hp) (a : Addr) (ns : List Int), ns.length ≤ n → Only H → SqL K H a (ns.map V.int) → sp [.ref a] H (fun v _ => v = .bl true) fun _ _ _ => False) ∧
        ∀ base : Heap, K.In base → base.Ns mainGlobals mg → FnOkG l.prog w K mg base (CX w) k fa fd [x] sp)
    (hCX : ∀ (w : World) (H : Hp) (s : Shared) (e : Value) (s' : Shared), CX w [] H s (fun _ _ _ => False) e s' → False) :
    PySem.W.WalkO q loose XP YP l.row.toRowW d [] (fun f vs => PySem.call f vs) := by
  refine Att.attach_call hn hdf fun w s₀ s₁ mg mb fa o pm cd doc a vs ns G Y ho hd hcd hmg hobj hints hlen hg => ?_
  obtain ⟨K, fd, sp, KX, hb, hsp, hF⟩ := F w mg fa _ Y G.T.g hmg
  exact law_callG KX G.T.g G.T.b G.T.builtins G.T.nolimit hg hobj hints (Nat.le_trans hlen hn2) hr hF hb (fun H hO hS => hsp H a ns hlen hO hS) fun H e s' => hCX w H s₁ e s'
end DL
set_option Elab.async false
set_option linter.all false
set_option maxRecDepth 100000
set_option maxHeartbeats 1000000
/-! DL25: repr of data. -/
namespace DL
open PySem L2 Evl PySem.Spec PyProof.Rows
variable [Tbs]
def rRepr (K : PySem.W.Frag) : List V → Hp → VK → Prop := fun xs H Q => ∃ x d, xs = [x] ∧ Dp K H x d ∧ d.showable = true ∧ d.hasDict = false ∧ d.depth ≤ 40 ∧ d.shown.length ≤ sizeLine ∧ Q (.str d.shown) H
theorem call_reprD {X : Cx} {k : Nat} (hg : X.A.guards = some []) (hr : Room k X.A) : CallR X (.builtin "repr") (rRepr X.K) := by
  intro pins s σ H xs us Q I r h
  obtain ⟨x, d, rfl, dp, hs, hd, hz, hl, q⟩ := h
  obtain ⟨u, rfl, rx⟩ := vals1 r
  cases dp with
  | non => cases (show u = Value.none from rx); exact PySem.P.repr_of_none ⟨.str _, H, I.tok _, ⟨_, rfl⟩, q⟩
  | bl b => cases (show u = Value.bool b from rx); exact PySem.P.repr_of_bool ⟨.str _, H, I.tok _, ⟨_, rfl⟩, q⟩
  | int i => obtain ⟨t, rfl⟩ := rx; exact PySem.P.repr_of_int (by simpa [PyData.showable] using hs) ⟨.str _, H, I.tok _, ⟨_, rfl⟩, q⟩
  | str y => obtain ⟨t, rfl⟩ := rx; exact PySem.P.repr_of_str (hsz := hl) ⟨.str _, H, I.tok _, ⟨_, rfl⟩, q⟩
  | lst h1 h2 =>
    obtain ⟨as, rd⟩ := Dp.reads I _ _ _ (.lst h1 h2) rx
    cases (show u = Value.ref _ from rx)
    refine PySem.repr_of_reads' (hsz := hl) rd hs (PyData.noDict_hsm hd) hg (by have := hr.units; omega) (fun _ _ e => e) fun h' u tk hk => ⟨.str _, H, (I.kept (h' := h') (t' := tk) hk), ⟨_, rfl⟩, q⟩
  | tup h1 h2 =>
    obtain ⟨as, rd⟩ := Dp.reads I _ _ _ (.tup h1 h2) rx
    cases (show u = Value.ref _ from rx)
    refine PySem.repr_of_reads' (hsz := hl) rd hs (PyData.noDict_hsm hd) hg (by have := hr.units; omega) (fun _ _ e => e) fun h' u tk hk => ⟨.str _, H, (I.kept (h' := h') (t' := tk) hk), ⟨_, rfl⟩, q⟩
def D.shows (d : D) : Bool := D.ok 60 d && (d.py.showable && (!d.py.hasDict && (decide (d.py.depth ≤ 40) && decide (d.py.shown.length ≤ sizeLine))))
def fRepr : DB
  | [d], P => d.shows = true ∧ P (.str d.py.shown)
  | _, _ => False
theorem rc_repr {K : PySem.W.Frag} : RCall K (rRepr K) fRepr := by
  refine ⟨fun {xs P P'} hp h => ?_, fun {B F ρ σ H vs xs Q P} S r h k => ?_⟩
  · unfold fRepr at h ⊢; split at h <;> first | exact ⟨h.1, hp _ h.2⟩ | exact h.elim
  · unfold fRepr at h
    split at h
    · obtain ⟨v, rfl, r1⟩ := r.one
      obtain ⟨h1, h2⟩ := h
      unfold D.shows at h1
      simp only [Bool.and_eq_true, Bool.not_eq_true', decide_eq_true_eq] at h1
      exact ⟨_, _, rfl, Dp.mono S.ex (r1.dp h1.1), h1.2.1, h1.2.2.1, h1.2.2.2.1, h1.2.2.2.2, k _ h2 _ F H (Ex.refl _) S (.str _)⟩
    · exact h.elim
end DL
set_option Elab.async false
set_option linter.all false
set_option maxRecDepth 100000
set_option maxHeartbeats 4000000
/-! DL26: tuple * int, any small int. -/
namespace DL
open PySem L2 Evl PySem.Spec PyProof.Rows
variable [Tbs]
theorem tuple_mul1W (l : Addr) (items : Array Value) (n : Nat) (dd : Option Addr) (sl : Array (Option Value)) (x : Int) (u : Tok) (c0 : (decide (x < -(2 ^ 63)) || decide (x ≥ 2 ^ 63)) = false) (c1 : (items.isEmpty || x == 1) = true) :
    Meets (Builtin.«tuple.__mul__» ⟨[.ref l, .int x u], []⟩) (fun _ R s => s.heap.get? l = some { cls := .type "tuple", dict := dd, data := .seq items n, slots := sl } ∧ R (.ok (.ret (Value.ref l))) s) :=
  .of_wp fun prog w A R s h => by
    obtain ⟨hp, g, d, tk, os⟩ := s
    obtain ⟨hl, h⟩ := h
    have f1 := AutoSeq1.idx_int
    wp_walk using wpAny_loadPart' hl
    repeat (first
      | (refine wpAny_ite_false (decide_eq_false (by rw [c0]; exact Bool.false_ne_true)) ?_; wp_walk using wpAny_loadPart' hl)
      | (refine wpAny_ite_true (decide_eq_true (by rw [c1])) ?_; wp_walk using wpAny_loadPart' hl))
    exact ⟨_, rfl, h⟩
theorem tuple_mul0W (l : Addr) (items : Array Value) (n : Nat) (dd : Option Addr) (sl : Array (Option Value)) (x : Int) (u : Tok) (c0 : (decide (x < -(2 ^ 63)) || decide (x ≥ 2 ^ 63)) = false) (c1 : (items.isEmpty || x == 1) = false) (c2 : (decide (x ≤ 0) || items.isEmpty) = true) :
    Meets (Builtin.«tuple.__mul__» ⟨[.ref l, .int x u], []⟩) (fun _ R s => s.heap.get? l = some { cls := .type "tuple", dict := dd, data := .seq items n, slots := sl } ∧
      R (.ok (.ret (Value.ref s.heap.objs.size))) { s with heap := s.heap.push { cls := Value.type "tuple", data := Data.seq #[] }, toks := s.toks }) :=
  .of_wp fun prog w A R s h => by
    obtain ⟨hp, g, d, tk, os⟩ := s
    obtain ⟨hl, h⟩ := h
    have f1 := AutoSeq1.idx_int
    wp_walk using wpAny_loadPart' hl
    repeat (first
      | (refine wpAny_ite_false (decide_eq_false (by rw [c0]; exact Bool.false_ne_true)) ?_; wp_walk using wpAny_loadPart' hl)
      | (refine wpAny_ite_false (decide_eq_false (by rw [c1]; exact Bool.false_ne_true)) ?_; wp_walk using wpAny_loadPart' hl)
      | (refine wpAny_ite_true (decide_eq_true (by rw [c2])) ?_; wp_walk using wpAny_loadPart' hl))
    exact ⟨_, rfl, h⟩
def rRep1 (K : PySem.W.Frag) : R2 := fun x y H Q => ∃ l k xs, x = .ref l ∧ y = .int k ∧ SqT K H l xs ∧ -1000 ≤ k ∧ k ≤ 1000 ∧ (xs = [] ∨ k = 1) ∧ Q x H
def rRep0 (K : PySem.W.Frag) : R2 := fun x y H Q => ∃ l k xs, x = .ref l ∧ y = .int k ∧ SqT K H l xs ∧ -1000 ≤ k ∧ k ≤ 0 ∧ xs ≠ [] ∧ ∀ p, H p = none → Q (.ref p) (upd H p (.tup []))
section
variable {X : Cx}
theorem op_rep1 : OpR X (binaryOp .Mult) (rRep1 X.K) := by
  intro pins s σ H x y v u Q I rx ry h
  obtain ⟨l, k, xs, rfl, rfl, hT, h1, h2, hh, q⟩ := h
  cases rx
  obtain ⟨t, rfl⟩ := ry
  obtain ⟨its, r, ⟨⟨cls, dd, data, sl⟩, ho, hc, n, hd⟩, hs⟩ := I.tuple hT
  simp only at hc hd
  subst hc hd
  have hle : its.length = xs.length := r.length.symm
  have c0 : (decide (k < -(2 ^ 63)) || decide (k ≥ 2 ^ 63)) = false := by
    rw [decide_eq_false (by omega), decide_eq_false (by omega)] <;> rfl
  have c1 : (its.toArray.isEmpty || k == 1) = true := by
    rcases hh with e | e
    · subst e
      have : its = [] := List.eq_nil_of_length_eq_zero hle
      subst this
      rfl
    · subst e; simp
  exact wpAny_binaryOp_repeat_ref (T := "tuple") (U := "int") (by decide) ⟨_, ho, rfl⟩ (fun s' => typeIs_int s' k t) noFill_tuple_mul F.fills_int_mul F.slot_int_rmul repeat_tuple F.slot_int_index.lookup
    (call_meets F.slot_int_rmul (typeIs_int s k t) F.entry_int_rmul (F.args_int_rmul_2 _ _) (int_rmul_tuple k t l its.toArray n dd sl)
      ⟨ho, rfl, ⟨_, ho, rfl⟩, call_meets F.slot_tuple_mul ⟨_, ho, rfl⟩ F.entry_tuple_mul (F.args_tuple_mul_2 _ _) (tuple_mul1W l its.toArray n dd sl k t c0 c1) ⟨ho, ⟨.ref l, H, I, rfl, q⟩⟩⟩)
theorem op_rep0 : OpR X (binaryOp .Mult) (rRep0 X.K) := by
  intro pins s σ H x y v u Q I rx ry h
  obtain ⟨l, k, xs, rfl, rfl, hT, h1, h2, hne, q⟩ := h
  cases rx
  obtain ⟨t, rfl⟩ := ry
  obtain ⟨its, r, ⟨⟨cls, dd, data, sl⟩, ho, hc, n, hd⟩, hs⟩ := I.tuple hT
  simp only at hc hd
  subst hc hd
  have hle : its.length = xs.length := r.length.symm
  have hi : its.toArray.isEmpty = false := by
    cases its with
    | nil => exact absurd (List.eq_nil_of_length_eq_zero hle.symm) hne
    | cons a b => rfl
  have c0 : (decide (k < -(2 ^ 63)) || decide (k ≥ 2 ^ 63)) = false := by
    rw [decide_eq_false (by omega), decide_eq_false (by omega)] <;> rfl
  have c1 : (its.toArray.isEmpty || k == 1) = false := by
    rw [hi, Bool.false_or]
    exact beq_eq_false_iff_ne.mpr (by omega)
  have c2 : (decide (k ≤ 0) || its.toArray.isEmpty) = true := by
    rw [decide_eq_true h2]; rfl
  refine wpAny_binaryOp_repeat_ref (T := "tuple") (U := "int") (by decide) ⟨_, ho, rfl⟩ (fun s' => typeIs_int s' k t) noFill_tuple_mul F.fills_int_mul F.slot_int_rmul repeat_tuple F.slot_int_index.lookup
    (call_meets F.slot_int_rmul (typeIs_int s k t) F.entry_int_rmul (F.args_int_rmul_2 _ _) (int_rmul_tuple k t l its.toArray n dd sl)
      ⟨ho, rfl, ⟨_, ho, rfl⟩, call_meets F.slot_tuple_mul ⟨_, ho, rfl⟩ F.entry_tuple_mul (F.args_tuple_mul_2 _ _) (tuple_mul0W l its.toArray n dd sl k t c0 c1 c2) ⟨ho, ?_⟩⟩)
  exact ⟨.ref s.heap.objs.size, _, I.laid (t' := s.toks) (o := .tup []) (fun b ob q => Heap.get?_push_of_some _ q) (Nat.le_refl _) ⟨Nat.zero_le _, [], .nil, IsTup.new _ _⟩, rfl, q _ (I.hok.fresh (Nat.le_refl _))⟩
def rRepA (K : PySem.W.Frag) : R2 := fun x y H Q => rRep1 K x y H Q ∨ rRep0 K x y H Q ∨ rRepT K x y H Q
theorem op_repA : OpR X (binaryOp .Mult) (rRepA X.K) := fun pins s σ H x y v u Q I rx ry h => by
  rcases h with h | h | h
  · exact op_rep1 pins s σ H x y v u Q I rx ry h
  · exact op_rep0 pins s σ H x y v u Q I rx ry h
  · exact op_repT pins s σ H x y v u Q I rx ry h
end
def dMulT : DOp
  | .tuple xs, .int k, P => (-1000 ≤ k ∧ k ≤ 1000 ∧ xs.length ≤ 1000) ∧ P (.tuple (List.replicate k.toNat xs).flatten)
  | _, _, _ => False
theorem ro_repA {K : PySem.W.Frag} : ROp K (rRepA K) dMulT := by
  refine ⟨⟨fun {x y P P'} hp h => ?_⟩, fun {B F ρ σ H v w x y Q P} S rx ry h k => ?_⟩
  · cases x <;> cases y <;> first | exact ⟨h.1, hp _ h.2⟩ | exact h.elim
  · cases x <;> cases y <;> try exact h.elim
    · rename_i xs n
      obtain ⟨⟨h1, h2, h3⟩, h4⟩ := h
      obtain ⟨a, vs, rfl, ha, r⟩ := rx.tuple_inv
      cases ry.int_inv
      have hl := r.length
      by_cases q1 : vs = [] ∨ n = 1
      · refine .inl ⟨a, n, vs, rfl, rfl, xl_t S.ex ha, h1, h2, q1, k _ h4 _ F H (Ex.refl _) S ?_⟩
        have : (List.replicate n.toNat xs).flatten = xs := by
          rcases q1 with e | e
          · subst e
            have : xs = [] := List.eq_nil_of_length_eq_zero hl.symm
            subst this
            simp
          · subst e; simp
        rw [this]; exact rx
      · have hne : vs ≠ [] := fun z => q1 (.inl z)
        by_cases q2 : n ≤ 0
        · refine .inr (.inl ⟨a, n, vs, rfl, rfl, xl_t S.ex ha, h1, q2, hne, fun p hp => ?_⟩)
          obtain ⟨e, S'⟩ := S.alloc (o := .tup []) hp
          refine k _ h4 _ _ _ e S' ?_
          have : n.toNat = 0 := by omega
          rw [this]
          exact .tup upd_same .nil
        · have q3 : n ≠ 1 := fun z => q1 (.inr z)
          refine .inr (.inr ⟨a, n, vs, rfl, rfl, xl_t S.ex ha, hne, by omega, h2, by omega, fun p hp => ?_⟩)
          obtain ⟨e, S'⟩ := S.alloc (o := .tup (List.replicate n.toNat vs).flatten) hp
          exact k _ h4 _ _ _ e S' (.tup upd_same ((r.flatten_replicate _).mono e))
end DL
set_option Elab.async false
set_option linter.all false
set_option maxRecDepth 100000
set_option maxHeartbeats 1000000
/-! DL27: calls with defaults, with keywords alone; of defs that show. -/
namespace DL
open PySem L2 Evl
variable [Tbs]
/-- the arguments and the defaults behind them -/
def aApp (das : DAs) (cs : List D) : DAs := fun ρ X K => das ρ X fun as ρ1 => K (as ++ cs.map .d) ρ1
theorem mono_aApp {das : DAs} {cs : List D} (m : MonoA das) : MonoA (aApp das cs) := ⟨fun hx hk h => m.go hx (fun _ _ h => hk _ _ h) h⟩
theorem AvR.app {K : PySem.W.Frag} {F : Hp} {σ : L2.St} : ∀ {vs : List V} {as : List AV} {ws : List V} {ds : List D}, AvR K F σ vs as → Reps K F ws ds → AvR K F σ (vs ++ ws) (as ++ ds.map .d)
  | [], [], _, _, _, r => avR_d r
  | _ :: _, .d _ :: _, _, _, h, r => ⟨h.1, AvR.app h.2 r⟩
  | _ :: _, .bor _ :: _, _, _, h, r => ⟨h.1, AvR.app h.2 r⟩
  | [], _ :: _, _, _, h, _ => by simp [AvR] at h
  | _ :: _, [], _, _, h, _ => by simp [AvR] at h
section
variable {X : Cx} {W : WX} {a b c e : Expr} {da db de : DE} {das : DAs} {es : List Expr} {pos p : Pos} {dc : DC}
theorem callTD {n : Nat} {E : L2.St → XK} {dvs : List V} {cs : List D} (hc : ∀ F, Reps X.K F dvs cs) (hE : ∀ σ cls d H, W cls d σ H → E σ cls d H) (m : MonoC dc) (ma : MonoA das) {σ : L2.St} {H : Hp} {Q : VK} (h : liftE X.K W (eCall n dc (aApp das cs)) σ H Q) : liftA X.K W das σ H fun vs H1 => spD X.K n dc (vs ++ dvs) H1 Q (E σ) := by
  obtain ⟨B, Fz, ρ, S, h⟩ := h
  refine liftA.of ma (Ex.refl _) S h fun as ρ1 h vs F1 H1 e1 S1 r1 => ?_
  obtain ⟨hlen, hbo, h⟩ := h
  refine call_data (XX := xl X.K W B Fz σ) (KK := fun r ρ' => ∀ v F' H', Ex Fz F' → St X.K B F' ρ' σ H' → Rep X.K F' v r.toD → Q v H') hlen S1 (r1.app (hc F1)) hbo m h (fun x ρ' h F' H' dd v e S' h1 h2 => hE _ _ _ _ (h F' H' dd v (e1.trans e) S' h1 h2)) fun r ρ' h v F' H' e S' h1 => ?_
  obtain ⟨F2, e2, S2, r2⟩ := h1.toD S'
  exact h v F2 H' ((e1.trans e).trans e2) S2 r2
theorem pd_callD {k : Nat} {f : Addr} {fd : FuncData} {ps : List Str} {x : Str} {n : Nat} {dvs : List V} {cs : List D} {ds : List Value} (m : MonoC dc) (F : FnOk X.prog X.w X.K X.mg X.base (L2.CX X.prog X.w) k f fd ps (spD X.K n dc)) (hr : Room k X.A) (hg : Gl X x) (hm : X.mg x = some (.ref f)) (hk : PySem.W.keepIn X.K (.ref f) = true) (hb : Binds X.K fd ps ds) (hd : Vals dvs ds) (hc : ∀ F, Reps X.K F dvs cs)
    (tk : Takes X W) (ha : PDA X W (e :: es) das) (hdb : (x == ("__debug__" : Str)) = false := by decide) (he : starEach (e :: es) X.env = (false, eval e X.env) :: starEach es X.env := by rfl) (hpl : (backTo pos (starEach es X.env)).any (·.1) = false := by rfl) :
    PD X W (.Call (.Name x p) (e :: es) [] pos) (eCall n dc (aApp das cs)) :=
  ⟨mono_eCall m (mono_aApp ha.mono), PE.imp (pe_callSD (E := WE W) F hr hg hm hk hb hd (fun σ => passAt tk σ) ha.run hdb he hpl) fun σ H Q h => callTD hc (fun σ cls d H h => h) m ha.mono h⟩
/-- a def that shows -/
theorem pd_callG {k : Nat} {f : Addr} {fd : FuncData} {ps : List Str} {x : Str} {n : Nat} (m : MonoC dc) (F : FnOkG X.prog X.w X.K X.mg X.base (L2.CX X.prog X.w) k f fd ps (spD X.K n dc)) (hgd : X.A.guards = some []) (hr : Room k X.A) (hg : Gl X x) (hm : X.mg x = some (.ref f)) (hk : PySem.W.keepIn X.K (.ref f) = true) (hb : Binds X.K fd ps [])
    (tk : Takes X W) (ha : PDA X W (e :: es) das) (hdb : (x == ("__debug__" : Str)) = false := by decide) (he : starEach (e :: es) X.env = (false, eval e X.env) :: starEach es X.env := by rfl) (hpl : (backTo pos (starEach es X.env)).any (·.1) = false := by rfl) :
    PD X W (.Call (.Name x p) (e :: es) [] pos) (eCall n dc das) := by
  refine ⟨mono_eCall m ha.mono, PE.imp (pe_callG (E := WE W) F hgd hr hg hm hk hb .nil (fun σ => passAt tk σ) ha.run hdb he hpl) fun σ H Q h => ?_⟩
  have := callT (E := WE W) (fun σ cls d H h => h) m ha.mono h
  simpa [tCallSD] using this
/-! ### keywords alone -/
def perm {α : Type} (π : List Nat) (xs : List α) : List α := π.filterMap (xs[·]?)
theorem perm_vals : ∀ (π : List Nat) {vs : List V} {us : List Value}, Vals vs us → Vals (perm π vs) (perm π us)
  | [], _, _, _ => .nil
  | i :: π, vs, us, r => by
    unfold perm
    rw [List.filterMap_cons, List.filterMap_cons]
    cases hv : vs[i]? with
    | none =>
      have : us[i]? = none := by rw [List.getElem?_eq_none_iff] at hv ⊢; rw [← r.length]; exact hv
      rw [this]; exact perm_vals π r
    | some v =>
      obtain ⟨u, hu, ru⟩ := r.get hv
      rw [hu]
      exact .cons ru (perm_vals π r)
theorem perm_reps {K : PySem.W.Frag} {F : Hp} : ∀ (π : List Nat) {vs : List V} {ds : List D}, Reps K F vs ds → Reps K F (perm π vs) (perm π ds)
  | [], _, _, _ => .nil
  | i :: π, vs, ds, r => by
    unfold perm
    rw [List.filterMap_cons, List.filterMap_cons]
    cases hv : ds[i]? with
    | none =>
      have : vs[i]? = none := by rw [List.getElem?_eq_none_iff] at hv ⊢; rw [r.length]; exact hv
      rw [this]; exact perm_reps π r
    | some d =>
      obtain ⟨v, hv2, rv⟩ := r.get_some hv
      rw [hv2]
      exact .cons rv (perm_reps π r)
structure PDK (X : Cx) (W : WX) (kws : List Keyword) (das : DAs) : Prop where
  mono : MonoA das
  run : PK X kws (liftA X.K W das)
theorem PK.imp {kws : List Keyword} {t t' : TA} (h : PK X kws t) (hi : ∀ σ H Q, t' σ H Q → t σ H Q) : PK X kws t' := ⟨fun pos pins s σ H Q I q => h.run pos pins s σ H Q I (hi σ H Q q)⟩
theorem pdk_nil : PDK X W [] aNil := ⟨mono_aNil, PK.imp pk_nil fun σ H Q ⟨B, F, ρ, S, h⟩ => h [] F H (Ex.refl _) S trivial⟩
theorem pdk_cons {nm : Option Str} {kpos : Pos} {kws : List Keyword} (h1 : PD X W a da) (h2 : PDK X W kws das) : PDK X W (⟨nm, a, kpos⟩ :: kws) (aCons da das) :=
  ⟨mono_aCons h1.mono h2.mono, PK.imp (pk_cons h1.run h2.run) fun σ H Q ⟨B, F, ρ, S, h⟩ => liftE.of h1.mono (Ex.refl _) S h fun x ρ1 h v F1 H1 e1 S1 r1 =>
    liftA.of h2.mono e1 S1 h fun xs ρ2 h vs F2 H2 e2 S2 r2 => h (v :: vs) F2 H2 (e1.trans e2) S2 ⟨r1.mono e2, r2⟩⟩
theorem pe_callN0 {CX : CXT} {k : Nat} {f : Addr} {fd : FuncData} {ps ks : List Str} {sp : Sp} {E : XK} {x : Str} {kws : List Keyword} {tk : TA} {g : List Value → List Value → List Value} {gV : List V → List V → List V} (F : FnOk X.prog X.w X.K X.mg X.base CX k f fd ps sp) (hr : Room k X.A) (hg : Gl X x) (hm : X.mg x = some (.ref f)) (hk : PySem.W.keepIn X.K (.ref f) = true) (hb : KBn X.K fd ps 0 ks g gV) (hx : Passes CX X E)
    (hkw : PK X kws tk) (hall : (backToKw pos (keywordEach kws X.env)).all (·.1.isSome) = true := by rfl) (hks : (backToKw pos (keywordEach kws X.env)).filterMap (·.1) = ks := by rfl) (hdb : (x == ("__debug__" : Str)) = false := by decide)
    (hpl : ((backTo pos (starEach [] X.env)).any (·.1) || (backToKw pos (keywordEach kws X.env)).any (·.1.isNone)) = false := by rfl) :
    PE X (.Call (.Name x p) [] kws pos) (tCallN 0 ks.length sp gV E tNil tk) := by
  refine ⟨fun pins s σ H Q I h => ?_⟩
  refine wpAny_Call_Name_kw (ld_glob I hg hm ?_ hdb)
  refine PySem.W.callWith_KW0 (h₀ := X.base) I.ok.mod.kin hk hall ?_ hpl
  refine thn (hkw.run pos pins s σ H _ I h) fun ws s2 ⟨zs, H2, I2, rz, l1, l2, q2⟩ => ⟨I2.kIn, ?_⟩
  rw [hks]
  exact run_fnN F hr hb hx I2 .nil rz l1 l2 q2
/-- f(k = v, ..): nothing raised -/
def eCallK (n m : Nat) (π : List Nat) (dc : DC) (das : DAs) : DE := fun ρ X K => das ρ X fun as ρ1 => allD as fun ds => ds.length = m ∧ (perm π ds).length = n ∧ dc ((perm π ds).map .fz) (fun _ _ => False) fun r _ => K r.toD ρ1
theorem mono_eCallK {n k : Nat} {π : List Nat} (m : MonoC dc) (ma : MonoA das) : MonoE (eCallK n k π dc das) := ⟨fun hx hk h => ma.go hx (fun as ρ h => allD.mono (fun ds h => ⟨h.1, h.2.1, m.go (fun _ _ h => h) (fun r o h => hk _ _ h) h.2.2⟩) h) h⟩
theorem callTK {n k : Nat} {π : List Nat} (m : MonoC dc) (ma : MonoA das) {σ : L2.St} {H : Hp} {Q : VK} (h : liftE X.K W (eCallK n k π dc das) σ H Q) : liftA X.K W das σ H fun zs H2 => ([] : List V).length = 0 ∧ zs.length = k ∧ spD X.K n dc (perm π zs) H2 Q (fun _ _ _ => False) := by
  obtain ⟨B, Fz, ρ, S, h⟩ := h
  refine liftA.of ma (Ex.refl _) S h fun as ρ1 h vs F1 H1 e1 S1 r1 => ?_
  obtain ⟨ds, r, hm, hn, h⟩ := allD.reps r1 h
  refine ⟨rfl, by rw [r.length]; exact hm, ?_⟩
  refine call_data (XX := fun _ _ => False) (KK := fun r ρ' => ρ' = ρ1 ∧ ∀ v F' H', Ex Fz F' → St X.K B F' ρ1 σ H' → Rep X.K F' v r.toD → Q v H') (as := (perm π ds).map .d) (by simpa using hn) S1 (avR_d (perm_reps π r)) (borOk_d _) m (by
    rw [argsOf_d]
    exact m.go (fun _ _ h => h) (fun r o h => ⟨putOuts_d _ _, fun v F' H' e S' rr => h v F' H' e S' rr⟩) h) (fun x ρ' h => h.elim) fun r ρ' h v F' H' e S' h1 => ?_
  obtain ⟨rfl, h⟩ := h
  obtain ⟨F2, e2, S2, r2⟩ := h1.toD S'
  exact h v F2 H' ((e1.trans e).trans e2) S2 r2
theorem pd_callK0 {k : Nat} {f : Addr} {fd : FuncData} {ps ks : List Str} {x : Str} {n m : Nat} {π : List Nat} {kws : List Keyword} {g : List Value → List Value → List Value} {gV : List V → List V → List V} (mc : MonoC dc) (F : FnOk X.prog X.w X.K X.mg X.base (L2.CX X.prog X.w) k f fd ps (spD X.K n dc)) (hr : Room k X.A) (hg : Gl X x) (hm : X.mg x = some (.ref f)) (hk : PySem.W.keepIn X.K (.ref f) = true) (hb : KBn X.K fd ps 0 ks g gV) (hgV : ∀ zs, gV [] zs = perm π zs) (hmm : ks.length = m)
    (hkw : PDK X W kws das) (hall : (backToKw pos (keywordEach kws X.env)).all (·.1.isSome) = true := by rfl) (hks : (backToKw pos (keywordEach kws X.env)).filterMap (·.1) = ks := by rfl) (hdb : (x == ("__debug__" : Str)) = false := by decide)
    (hpl : ((backTo pos (starEach [] X.env)).any (·.1) || (backToKw pos (keywordEach kws X.env)).any (·.1.isNone)) = false := by rfl) :
    PD X W (.Call (.Name x p) [] kws pos) (eCallK n m π dc das) :=
  ⟨mono_eCallK mc hkw.mono, PE.imp (pe_callN0 F hr hg hm hk hb pass0 hkw.run hall hks hdb hpl) fun σ H Q h => by
    subst hmm
    have := callTK mc hkw.mono h
    show liftA _ _ _ σ H _
    simp only [hgV]
    exact this⟩
/-- the binding by keywords, of a def without defaults -/
theorem kbn0 {K : PySem.W.Frag} {x qual : Str} {params : Arguments} {body : List Stmt} {scope : Scope} {kws : List (Str × V)} {f : Addr} {fd : FuncData} {ps : List Str} (F : FunD K x qual params body scope [] kws f fd) (ks : List Str) (π : List Nat)
    (h : ∀ (kV doc pm : Value) (an : Option Addr) (cdv ct : Value) (ws : List Value), ws.length = ks.length → bindArgs (PySem.W.fnOf x qual params body scope .none kV doc pm an cdv ct) ⟨[], ks.zip ws⟩ = pure (ps.zip (perm π ws))) : KBn K fd ps 0 ks (fun _ ws => perm π ws) (fun _ zs => perm π zs) := by
  obtain ⟨oc, od, dV, kV, doc, pm, an, cdv, ct, osl, rfl, lk, hcd, hD, hK⟩ := F.ex
  rcases hD with ⟨_, rfl⟩ | ⟨e, _⟩
  · refine ⟨fun s us ws _ h1 h2 => ?_, fun _ r => perm_vals π r⟩
    have : us = [] := List.length_eq_zero_iff.mp h1
    subst this
    exact .of_eq (h kV doc pm an cdv ct ws h2)
  · exact absurd rfl e
end
end DL
set_option Elab.async false
set_option linter.all false
set_option maxRecDepth 100000
set_option maxHeartbeats 1000000
/-! DL28: x in a list or tuple. -/
namespace DL
open PySem L2 Evl
variable [Tbs]
def dIn : DOp := fun x y P => match y with
  | .list ys => (D.ok 60 x = true ∧ D.ok 60 (.list ys) = true) ∧ P (.bool (ys.any fun z => deq z x))
  | .tuple ys => match x with
    | .int i => ofS (asInts ys) fun ns => P (.bool (decide (i ∈ ns)))
    | _ => False
  | _ => False
theorem inV_ints (i : Int) : ∀ ns : List Int, inV (.int i) (ns.map V.int) = decide (i ∈ ns)
  | [] => rfl
  | n :: ns => by
    have ih := inV_ints i ns
    unfold inV at ih ⊢
    rw [List.map_cons, List.any_cons, ih]
    have : eqV (V.int n) (V.int i) = decide (n = i) := by
      simp only [eqV]; exact Bool.beq_eq_decide_eq _ _
    rw [this]
    by_cases q : n = i
    · subst q; simp
    · have : ¬ i = n := fun z => q z.symm
      simp [q, this]
theorem flat_ints (ns : List Int) : (ns.map V.int).all flatV = true := by
  rw [List.all_eq_true]
  intro x hx
  obtain ⟨n, _, rfl⟩ := List.mem_map.mp hx
  rfl
theorem any_pys (f : PyData → Bool) : ∀ ys : List D, (pys ys).any f = ys.any fun z => f z.py
  | [] => rfl
  | y :: ys => by rw [pys, List.any_cons, List.any_cons, any_pys f ys]
def rInB (K : PySem.W.Frag) : R2 := fun x y H Q => rInD K x y H Q ∨ rIn K false x y H Q
theorem op_inB {X : Cx} {k : Nat} (hr : Room k X.A) : OpR X (compareOp .In) (rInB X.K) := fun pins s σ H x y v u Q I rx ry h => by
  rcases h with h | h
  · exact op_inD (by have := hr.un; omega) pins s σ H x y v u Q I rx ry h
  · exact op_in_seq pins s σ H x y v u Q I rx ry h
theorem ro_in {K : PySem.W.Frag} : ROp K (rInB K) dIn := by
  refine ⟨⟨fun {x y P P'} hp h => ?_⟩, fun {B F ρ σ H v w x y Q P} S rx ry h k => ?_⟩
  · cases y <;> try exact h.elim
    · exact ⟨h.1, hp _ h.2⟩
    · cases x <;> try exact h.elim
      exact ofS.mono (fun ns h => hp _ h) h
  · cases y <;> try exact h.elim
    · rename_i ys
      obtain ⟨⟨h1, h2⟩, h3⟩ := h
      refine .inl ⟨x.py, pys ys, Dp.mono S.ex (rx.dp h1), Dp.mono S.ex (ry.dp h2), ok_shaped h1, ok_shaped h2, ?_⟩
      rw [any_pys]
      exact k _ h3 _ F H (Ex.refl _) S (.bool _)
    · cases x <;> try exact h.elim
      rename_i ys i
      obtain ⟨ns, e, h⟩ := ofS.eq h
      rw [asInts_eq e] at ry
      obtain ⟨a, ws, rfl, ha, r⟩ := ry.tuple_inv
      rw [r.ints] at ha
      cases rx.int_inv
      refine .inr ⟨a, ns.map V.int, rfl, .inr (xl_t S.ex ha), rfl, flat_ints ns, ?_⟩
      show Q (.bl (inV (.int i) (ns.map V.int))) H
      rw [inV_ints]
      exact k _ h _ F H (Ex.refl _) S (.bool _)
end DL
set_option Elab.async false
set_option linter.all false
set_option maxRecDepth 100000
set_option maxHeartbeats 1000000
/-! DL29: contracts that are a body's own reading. -/
namespace DL
open PySem L2 Evl PyProof.Rows
variable [Tbs]
/-- what a body with this reading promises -/
def dcOf (ds : DS) (n : Nat) : DC := fun args XX R => ∃ (XX' : Exn → List Sl → Prop) (R' : Rv → List Sl → Prop), (∀ x o, XX' x o → XX x o) ∧ (∀ r o, R' r o → R r o) ∧ ds (fill n args) (postF args XX' R')
theorem mono_dcOf {ds : DS} {n : Nat} : MonoC (dcOf ds n) := ⟨fun hx hk ⟨XX', R', h1, h2, h⟩ => ⟨XX', R', fun x o q => hx _ _ (h1 x o q), fun r o q => hk _ _ (h2 r o q), h⟩⟩
theorem dcOf.intro {ds : DS} {n : Nat} {args : List Sl} {XX : Exn → List Sl → Prop} {R : Rv → List Sl → Prop} (h : ds (fill n args) (postF args XX R)) : dcOf ds n args XX R := ⟨XX, R, fun _ _ q => q, fun _ _ q => q, h⟩
theorem postF_le {args : List Sl} {XX XX' : Exn → List Sl → Prop} {R R' : Rv → List Sl → Prop} (h1 : ∀ x o, XX' x o → XX x o) (h2 : ∀ r o, R' r o → R r o) : (postF args XX' R').Le (postF args XX R) :=
  ⟨fun ρ h => h2 _ _ h, fun r ρ h => h2 _ _ h, fun ρ h => h, fun ρ h => h, fun x ρ h => h1 _ _ h⟩
theorem body_of2 {K : PySem.W.Frag} {n : Nat} {s : DS} {N : List Str} {vs : List V} {H : Hp} {Q : VK} {E : XK} (hsp : spD K n (dcOf s N.length) vs H Q E) (ms : MonoS s) : liftS K (fun cls d _ H => E cls d H) s { nx := fun _ H' => Q .non H', rt := Q } (L2.start N vs) H :=
  body_of hsp ms (fun _ _ _ _ h => h) fun args XX R _ ⟨XX', R', h1, h2, h⟩ => ms.go (postF_le h1 h2) h
/-- an own dict or list is handed back -/
def dRetS (i : Nat) : DS := fun ρ P => match gt ρ i with
  | .ow false c => P.rt (.nw c) (ρ.set i .un)
  | _ => False
theorem pds_retS {X : Cx} {W : WX} {pos p : Pos} (i : Nat) {x : Str} (hN : X.N[i]? = some x := by rfl) (hv : Vis X.env.scope x := by first | exact Or.inl rfl | exact Or.inr (Or.inl rfl) | exact Or.inr (Or.inr rfl)) (hd : (x == ("__debug__" : Str)) = false := by decide)
    (hcd : (x == ("__classdict__" : Str)) = false := by decide) : PDS X W (.Return (some (.Name x p)) pos) (dRetS i) := by
  refine ⟨⟨fun {ρ P P'} le h => ?_⟩, PS.imp (ps_ret (pe_var (i := i) hN hv hd hcd)) fun D σ H ⟨B, F, ρ, S, h⟩ => ?_⟩
  · unfold dRetS at h ⊢
    split at h
    · exact le.rt _ _ h
    · exact h.elim
  · unfold dRetS at h
    split at h
    · rename_i c hs
      obtain ⟨a, e1, ow, h0, _⟩ := S.ow hs
      have hr : i < ρ.length := lt_of_getD (by unfold gt at hs; rw [hs]; rfl)
      refine ⟨_, e1, h _ F σ H (Ex.refl _) (S.drop i) (.nw ⟨a, rfl, ow, h0 rfl, fun j hj z => ?_⟩)⟩
      by_cases q : i = j
      · subst q; rw [getD_set_self hr] at hj; cases hj
      · rw [getD_set_ne q] at hj
        exact q (S.own i j a (by unfold gt at hs; rw [hs]; rfl) hj e1 z)
    · exact h.elim
theorem okG_of {CX : CXT} {P : Program} {w : World} {K : PySem.W.Frag} {mg : Str → Option Value} {base : Heap} {x qual : Str} {params : Arguments} {body : List Stmt} {scope : Scope} {dvs : List V} {kws : List (Str × V)} {f : Addr} {fd : FuncData} {N ps : List Str} {k : Nat} {sp : Sp} (F : FunD K x qual params body scope dvs kws f fd) (S : FnScope N ps scope) (len : ∀ vs H Q E, sp vs H Q E → vs.length = ps.length)
    (hbody : ∀ (cdv : Value) (A : Around) (outer : List PySem.Env) (s : Shared) (H : Hp) (vs : List V) (Q : VK) (E : XK), (A.deeper (envOfC qual scope s.heap.objs.size f cdv)).guards = some [] → Room k (A.deeper (envOfC qual scope s.heap.objs.size f cdv)) → sp vs H Q E →
      ∃ t, PSs (cxOf CX P w K mg base N qual scope f cdv A outer s H E) body t ∧ t { nx := fun _ H' => Q .non H', rt := Q } (start N vs) H) : FnOkG P w K mg base CX (k + 1) f fd ps sp := by
  obtain ⟨oc, od, dV, kV, doc, pm, an, cdv, ct, osl, rfl, lk, hcd, _, _⟩ := F.ex
  exact fnG_of lk hcd S len fun A outer s H vs Q E hgd hr hsp => hbody cdv A outer s H vs Q E hgd hr hsp
end DL
set_option Elab.async false
set_option linter.all false
set_option maxRecDepth 100000
set_option maxHeartbeats 1000000
/-! DL30: name = {.. for ..} on one line, the name a plain local. -/
namespace DL
open PySem L2 Evl PySem.Spec PyProof.Rows
variable [Tbs]
section
variable {X : Cx} {W : WX} {a b c e elt tg iter kx vx : Expr} {dk dv : DE} {dt : DT} {di : DI} {es ifs : List Expr} {pos p : Pos}
theorem ps_setDc {i : Nat} {y : Str} {py : Pos} {scope : Scope} {own : List (Str × Nat)} {spos : Pos} {wi : TI} {g : TG} {tt : TT} {tk tv : TE} (hc : X.calm = true) (hN : X.N.Nodup) (hy : X.N[i]? = some y) (hyl : X.env.scope.names.lookup y = some .local)
    (hsw : swapsWith (.DictComp kx vx [⟨tg, iter, ifs, 0⟩] scope pos) (some (.Name y py)) spos.line X.env = pure true) (hi : PI X tg iter wi) (ok : BlkOk X.N X.env.scope scope own)
    (hg : ∀ (s : Shared) (H : Hp) (C : Addr) (cl : List (Str × Addr)) (fp : List Addr), PG (X.blk s H scope (compEnvC scope cl C X.env) fp) tg g) (ht : ∀ (s : Shared) (H : Hp) (C : Addr) (cl : List (Str × Addr)) (fp : List Addr), PTs (X.blk s H scope (compEnvC scope cl C X.env) fp) ifs tt)
    (hk : ∀ (s : Shared) (H : Hp) (C : Addr) (cl : List (Str × Addr)) (fp : List Addr), PE (X.blk s H scope (compEnvC scope cl C X.env) fp) kx tk)
    (he : ∀ (s : Shared) (H : Hp) (C : Addr) (cl : List (Str × Addr)) (fp : List Addr), PE (X.blk s H scope (compEnvC scope cl C X.env) fp) vx tv) (hs : ∀ x, foldedSetIterable iter X.env x = pure x := by intro _; rfl) :
    PS X (.Assign [.Name y py] (.DictComp kx vx [⟨tg, iter, ifs, 0⟩] scope pos) spos) (tAsg (tDc wi g tt tk tv (own.map (·.2))) (gName i)) := by
  refine ⟨fun pins s σ H D I h => ?_⟩
  rw [exec_Assign_Name_used _ _ _ _ hsw]
  refine wpAny_bind (wpAny_standAt (wpAny_bind ?_))
  show wpAny _ X.A (do let _ ← comprehension (.DictComp kx vx [⟨tg, iter, ifs, 0⟩] scope pos) scope X.env (firstIterPos [⟨tg, iter, ifs, 0⟩] pos) newDict false (eval iter X.env) (some (assign (.Name y py) X.env))) _ _ s
  have h : tDc wi g tt tk tv (own.map (·.2)) σ H (fun x H1 => gName i x σ H1 D.nx) := h
  refine wpAny_bind (thn (dc_core (Qf := fun _ s' => SP X pins D .next s') hc hN I hi ok hg ht hk he hs h fun L C s' m H' I' q hn f => ?_) fun _ s' hq => wpAny_pure (wpAny_pure hq))
  show wpAny _ _ (assign (.Name y py) X.env (.ref L)) _ _ _
  refine wpAny_assign_Name (store_ok2 (v := V.ref L) I' hN hy (.inl hyl) rfl (fun s2 I2 ⟨a, sb, ha⟩ => ?_) (.inr hyl))
  obtain ⟨f0, f1, f2, f3, f4, f5⟩ := f
  have haC : C ≠ a := by
    rcases ha with z | z
    · rw [z]; exact f1
    · exact fun e => f4 y a z e.symm
  refine ⟨m, hn.sameBut sb haC, fun h3 sb3 => ?_⟩
  exact ⟨_, H', I2.turned (t' := s2.toks) (fun b o hb e => (sb3.2 b hb).trans e) f0 f1 f3 f4 f5, q⟩
theorem sw_trueD {gs : List Comprehension} {scope : Scope} {pos py : Pos} {y : Str} {l : Nat} {env : PySem.Env} (hk : env.scope.kind = .function) (hy : env.scope.names.lookup y = some .local) (hl : (py.line == pos.line) = true)
    (ha : (scope.names.any fun (n, k) => n == y && (k == .local || k == .cell)) = false) : swapsWith (.DictComp kx vx gs scope pos) (some (.Name y py)) l env = pure true := by
  have ky : env.kindOf y = some .local := hy
  have hb : env.blockKind = .function := by unfold PySem.Env.blockKind; rw [hk]; rfl
  unfold swapsWith
  simp only [hb, ky, ha, Expr.pos, hl]
  rfl
theorem pds_ownDc {i : Nat} {y : Str} {py spos : Pos} {dg : DG} {g : TG} {is vs : List Nat} {scope : Scope} {own : List (Str × Nat)} (hc : X.calm = true) (hN : X.N.Nodup) (hy : X.N[i]? = some y) (hyl : X.env.scope.names.lookup y = some .local)
    (hsw : swapsWith (.DictComp kx vx [⟨tg, iter, ifs, 0⟩] scope pos) (some (.Name y py)) spos.line X.env = pure true) (hi : PDI X W tg iter di) (ok : BlkOk X.N X.env.scope scope own) (hv : own.map (·.2) = vs)
    (hg : ∀ (s : Shared) (H : Hp) (C : Addr) (cl : List (Str × Addr)) (fp : List Addr), PDG (X.blk s H scope (compEnvC scope cl C X.env) fp) tg g dg is) (his : ∀ j ∈ is, j ∈ vs)
    (ht : ∀ (s : Shared) (H : Hp) (C : Addr) (cl : List (Str × Addr)) (fp : List Addr), PDTs (X.blk s H scope (compEnvC scope cl C X.env) fp) W0 ifs dt)
    (hk : ∀ (s : Shared) (H : Hp) (C : Addr) (cl : List (Str × Addr)) (fp : List Addr), PD (X.blk s H scope (compEnvC scope cl C X.env) fp) W0 kx dk)
    (he : ∀ (s : Shared) (H : Hp) (C : Addr) (cl : List (Str × Addr)) (fp : List Addr), PD (X.blk s H scope (compEnvC scope cl C X.env) fp) W0 vx dv) (hs : ∀ x, foldedSetIterable iter X.env x = pure x := by intro _; rfl) :
    PDS X W (.Assign [.Name y py] (.DictComp kx vx [⟨tg, iter, ifs, 0⟩] scope pos) spos) (dOwn (nDC di dg dt dk dv vs) i) := by
  subst hv
  have mg := (hg X.s_0 X.H_0 0 [] []).mono
  have mt := (ht X.s_0 X.H_0 0 [] []).mono
  have mk := (hk X.s_0 X.H_0 0 [] []).mono
  have me := (he X.s_0 X.H_0 0 [] []).mono
  have mn := mono_nDC (vs := own.map (·.2)) hi.mono mg mt mk me
  refine ⟨⟨fun le q => mn.go le.ex (fun c ρ q => le.nx _ q) q⟩, PS.imp (ps_setDc (tt := liftT X.K W0 dt) (tk := liftE X.K W0 dk) (tv := liftE X.K W0 dv) hc hN hy hyl hsw hi.run ok (fun s H C cl fp => (hg s H C cl fp).pg) (fun s H C cl fp => (ht s H C cl fp).run) (fun s H C cl fp => (hk s H C cl fp).run) (fun s H C cl fp => (he s H C cl fp).run) hs)
    fun D σ H ⟨B, F, ρ, S, q⟩ => ?_⟩
  have h := liftN.ofS (Q := fun v H => gName i v σ H D.nx) mn S q fun d ρ1 q v F1 H1 e1 S1 r1 => q F1 _ H1 e1 (S1.set_ow' r1)
  obtain ⟨B, F, ρ, S, h⟩ := h
  exact ⟨B, F, ρ, S, hi.mono.go (fun _ _ h => h) (fun ds ρ1 h J B' F1 H1 l e1 S1 Y => dc_turn (Xb := X.blk X.s_0 X.H_0 scope (compEnvC scope [] 0 X.env) []) rfl (hg _ _ _ _ _) mt mk me his l e1 S1 Y h) h⟩
end
end DL
set_option Elab.async false
set_option linter.all false
set_option maxRecDepth 100000
set_option maxHeartbeats 1000000
/-! DL31: the readings, step by step. -/
namespace DL
open PySem L2 Evl
variable [Tbs]
section
variable {ρ ρ1 : Env} {P : DP} {X : XP} {K : D → Env → Prop} {KB : Bool → Env → Prop} {KN : Ct → Env → Prop} {KA : List AV → Env → Prop} {KI : List D → Env → Prop} {KM : List Itm → Env → Prop} {KE : Env → Prop} {KO : Option Int → Env → Prop}
  {s t : DS} {de da db dc' dk dv : DE} {ta tb : DT} {dn : NE} {das : DAs} {dg : DG} {dgs : DGs} {di : DI} {dm : DM} {dl dh : DPart} {i j n m : Nat} {d e : D} {c : Ct} {b : Bool} {f f' : DOp} {dc : DC} {ds : List D} {as : List AV} {Q : D → Prop} {QB : Bool → Prop} {QL : List D → Prop} {C : Addr} {lay : List Str}
/-! statements -/
theorem w_seq (h : s ρ { nx := fun ρ' => t ρ' P, rt := P.rt, bk := P.bk, ct := P.ct, ex := P.ex }) : dSeq s t ρ P := h
theorem w_next (h : P.nx ρ) : dNext ρ P := h
theorem w_break (h : P.bk ρ) : dBreak ρ P := h
theorem w_cont (h : P.ct ρ) : dCont ρ P := h
theorem w_ret (h : de ρ P.ex fun d ρ' => P.rt (.d d) ρ') : dRet de ρ P := h
theorem w_retN (h : dn ρ P.ex fun d ρ' => P.rt (.nw d) ρ') : dRetN dn ρ P := h
theorem w_retS (g : gt ρ i = .ow false c) (h : P.rt (.nw c) (ρ.set i .un)) : dRetS i ρ P := by unfold dRetS; rw [g]; exact h
theorem w_if (h : ta ρ P.ex fun b ρ1 => if b = true then s ρ1 P else t ρ1 P) : dIf ta s t ρ P := h
theorem w_asg (h : de ρ P.ex fun d ρ1 => dg d ρ1 P.nx) : dAsg de dg ρ P := h
theorem w_own (h : dn ρ P.ex fun c ρ1 => P.nx (ρ1.set i (.ow false c))) : dOwn dn i ρ P := h
theorem w_drop (h : de ρ P.ex fun _ ρ' => P.nx ρ') : dDrop de ρ P := h
theorem w_app {bb : Bool} {xs : List D} (g : gt ρ i = .ow bb (.lst xs)) (h : de ρ P.ex fun y ρ1 => owL (gt ρ1 i) fun b ds => ds.length ≤ 1000000 ∧ P.nx (ρ1.set i (.ow b (.lst (ds ++ [y]))))) : dApp i de ρ P := by unfold dApp; rw [g]; exact h
theorem w_owL {bb : Bool} {xs : List D} {sl : Sl} {k : Bool → List D → Prop} (g : sl = .ow bb (.lst xs)) (h : k bb xs) : owL sl k := by rw [g]; exact h
theorem w_owC {bb : Bool} {sl : Sl} {k : Bool → Ct → Prop} (g : sl = .ow bb c) (h : k bb c) : owC sl k := by rw [g]; exact h
theorem w_par {is : List Nat} (h : dm ρ P.ex fun its ρ1 => is.length = its.length ∧ P.nx (setItms is its ρ1)) : dPar is dm ρ P := h
theorem w_aug (g : gt ρ i = .fz d) (h : de ρ P.ex fun y ρ1 => f d y fun z => P.nx (ρ1.set i (.fz z))) : dAug i f de ρ P := by unfold dAug ofFz; rw [g]; exact h
theorem w_for (h : di ρ P.ex fun ds ρ1 => forL dg s ds ρ1 P) : dFor di dg s ρ P := h
theorem w_lk (g : isDk (gt ρ i)) (h : s ρ { P with ex := fun _ _ => False }) : dLk i s ρ P := ⟨g, h⟩
theorem w_nlk (g : isDk (gt ρ i)) (h : dn ρ X0 KN) : nLk i dn ρ X KN := ⟨g, h⟩
theorem w_iteT {A B : Prop} (h : A) : if true = true then A else B := by rw [if_pos rfl]; exact h
theorem w_iteF {A B : Prop} (h : B) : if false = true then A else B := by rw [if_neg (by decide)]; exact h
theorem w_iteNT {A B : Prop} (h : B) : if (!true) = true then A else B := by rw [if_neg (by decide)]; exact h
theorem w_iteNF {A B : Prop} (h : A) : if (!false) = true then A else B := by rw [if_pos (by decide)]; exact h
theorem w_iteT' {A B : Prop} {b : Bool} (q : b = true) (h : A) : if b = true then A else B := by rw [if_pos q]; exact h
theorem w_iteF' {A B : Prop} {b : Bool} (q : b = false) (h : B) : if b = true then A else B := by rw [if_neg (by rw [q]; decide)]; exact h
/-! targets -/
theorem w_gname (h : KE (ρ.set i (.fz d))) : dgName i d ρ KE := h
theorem w_gtup (hl : ds.length = n) (h : dgs ds ρ KE) : dgTup n dgs (.tuple ds) ρ KE := ⟨hl, h⟩
theorem w_gcons (h : dg d ρ fun ρ' => dgs ds ρ' KE) : dgCons dg dgs (d :: ds) ρ KE := h
theorem w_gnil (h : KE ρ) : dgNil [] ρ KE := ⟨rfl, h⟩
theorem w_gsub (g : isOw (gt ρ i) = true) (h : dk ρ X0 fun j ρ2 => owC (gt ρ2 i) fun b c => ofPut (ctPut c j d) fun c' => KE (ρ2.set i (.ow b c'))) : dgSub i dk d ρ KE := ⟨g, h⟩
theorem w_put {o : Option Ct} {k : Ct → Prop} (g : o = some c) (h : k c) : ofPut o k := by rw [g]; exact h
/-! values -/
theorem w_var (g : gt ρ i = .fz d) (h : K d ρ) : eVarF i ρ X K := by unfold eVarF; rw [g]; exact h
theorem w_varO (g : gt ρ i = .ow false c) (h : K c.d (ρ.set i (.fz c.d))) : eVarF i ρ X K := by unfold eVarF; rw [g]; exact h
theorem w_c (h : K d ρ) : eC d ρ X K := h
theorem w_op (h : da ρ X fun x ρ1 => db ρ1 X fun y ρ2 => f x y fun z => K z ρ2) : eOp f da db ρ X K := h
theorem w_and (h : da ρ X fun d ρ1 => asB d fun c => if c = true then db ρ1 X K else K (.bool false) ρ1) : eAnd da db ρ X K := h
theorem w_or (h : da ρ X fun d ρ1 => asB d fun c => if c = true then K (.bool true) ρ1 else db ρ1 X K) : eOr da db ρ X K := h
theorem w_not (h : da ρ X fun d ρ1 => asB d fun c => K (.bool (!c)) ρ1) : eNot da ρ X K := h
theorem w_neg (h : da ρ X fun d ρ1 => match d with
  | .int i => K (.int (-i)) ρ1
  | _ => False) : eNeg da ρ X K := h
theorem w_ifE (h : ta ρ X fun c ρ1 => if c = true then da ρ1 X K else db ρ1 X K) : eIf ta da db ρ X K := h
theorem w_chain (h : da ρ X fun x ρ1 => db ρ1 X fun y ρ2 => f x y fun z => asB z fun k => if k = true then dc' ρ2 X fun w ρ3 => f' y w fun u => K u ρ3 else K (.bool false) ρ2) : eChain f f' da db dc' ρ X K := h
theorem w_asB (h : QB b) : asB (.bool b) QB := h
theorem w_tup (h : das ρ X fun as ρ' => allD as fun ds => ds.length ≤ 1000000 ∧ K (.tuple ds) ρ') : eTup das ρ X K := h
theorem w_lst (h : das ρ X fun as ρ' => allD as fun ds => ds.length ≤ 1000000 ∧ K (.list ds) ρ') : eLst das ρ X K := h
theorem w_nlst (h : das ρ X fun as ρ' => allD as fun ds => ds.length ≤ 1000000 ∧ KN (.lst ds) ρ') : nLst das ρ X KN := h
theorem w_len0 {A : Prop} {k : Nat} (hk : k ≤ 1000000) (h : A) : k ≤ 1000000 ∧ A := ⟨hk, h⟩
theorem w_allN (h : QL []) : allD [] QL := h
theorem w_allD (h : allD as fun xs => QL (d :: xs)) : allD (.d d :: as) QL := h
theorem w_anil (h : KA [] ρ) : aNil ρ X KA := h
theorem w_acons (h : de ρ X fun x ρ1 => das ρ1 X fun xs ρ2 => KA (.d x :: xs) ρ2) : aCons de das ρ X KA := h
theorem w_abor (g : isOw (gt ρ i) = true) (h : das ρ X fun xs ρ2 => KA (.bor i :: xs) ρ2) : aBor i das ρ X KA := ⟨g, h⟩
theorem w_aapp {cs : List D} (h : das ρ X fun as ρ1 => KA (as ++ cs.map .d) ρ1) : aApp das cs ρ X KA := h
theorem w_fz (h : dn ρ X fun c ρ' => K c.d ρ') : eFz dn ρ X K := h
theorem w_nC (h : KN c ρ) : nC c ρ X KN := h
theorem w_d1K (h : dk ρ X fun k ρ1 => dv ρ1 X fun v ρ2 => ofS k.key fun kk => KN (.dct [(kk, v)]) ρ2) : nD1K dk dv ρ X KN := h
theorem w_d1T (h : dk ρ X fun k ρ1 => dv ρ1 X fun v ρ2 => ofS k.keys fun kk => KN (.dctT [(kk, v)]) ρ2) : nD1T dk dv ρ X KN := h
theorem w_ofS {α : Type} {o : Option α} {x : α} {k : α → Prop} (g : o = some x) (h : k x) : ofS o k := by rw [g]; exact h
theorem w_is {g : D → Option Bool} (h : de ρ X fun d ρ1 => ofS (g d) fun b => K (.bool b) ρ1) : eIs g de ρ X K := h
theorem w_mnil (h : KM [] ρ) : mNil ρ X KM := h
theorem w_md (h : de ρ X fun x ρ1 => dm ρ1 X fun its ρ2 => KM (.d x :: its) ρ2) : mD de dm ρ X KM := h
theorem w_mn (h : dn ρ X fun x ρ1 => dm ρ1 X fun its ρ2 => KM (.c x :: its) ρ2) : mN dn dm ρ X KM := h
/-! reads of slots -/
theorem w_ixS (g : isOw (gt ρ i) = true) (h : db ρ X fun k ρ1 => match k with
  | .int j => ofLst (gt ρ1 i) fun ds => ∃ d, atI ds j = some d ∧ K d ρ1
  | _ => False) : eIxS i db ρ X K := ⟨g, h⟩
theorem w_ofL {bb : Bool} {xs : List D} {sl : Sl} {k : List D → Prop} (g : sl = .ow bb (.lst xs)) (h : k xs) : ofLst sl k := by rw [g]; exact h
theorem w_lenS {bb : Bool} {xs : List D} (g : gt ρ i = .ow bb (.lst xs)) (hl : xs.length ≤ 1000000) (h : K (.int xs.length) ρ) : eLenS i ρ X K := by unfold eLenS; rw [g]; exact ⟨hl, h⟩
theorem w_pop {bb : Bool} {xs : List D} (g : gt ρ i = .ow bb (.lst xs)) (hd : xs[xs.length - 1]? = some d) (h : K d (ρ.set i (.ow bb (.lst xs.dropLast)))) : ePop i ρ X K := by unfold ePop; rw [g]; exact ⟨d, hd, h⟩
theorem w_getS (g : isOw (gt ρ i) = true) (h : dk ρ X fun k ρ1 => owC (gt ρ1 i) fun _ c => ∃ d, dget c.d k = some (some d) ∧ K d ρ1) : eGetS i dk ρ X K := ⟨g, h⟩
theorem w_get (h : da ρ X fun c ρ1 => dk ρ1 X fun k ρ2 => ∃ d, dget c k = some (some d) ∧ K d ρ2) : eGet da dk ρ X K := h
theorem w_inS (h : dk ρ X fun k ρ1 => owC (gt ρ1 i) fun _ c => ∃ o, dget c.d k = some o ∧ KB o.isSome ρ1) : tInS false i dk ρ X KB := h
theorem w_notinS (h : dk ρ X fun k ρ1 => owC (gt ρ1 i) fun _ c => ∃ o, dget c.d k = some o ∧ KB (!o.isSome) ρ1) : tInS true i dk ρ X KB := h
theorem w_in (h : dk ρ X fun k ρ1 => da ρ1 X fun c ρ2 => ∃ o, dget c k = some o ∧ KB o.isSome ρ2) : tIn false dk da ρ X KB := h
theorem w_notin (h : dk ρ X fun k ρ1 => da ρ1 X fun c ρ2 => ∃ o, dget c k = some o ∧ KB (!o.isSome) ρ2) : tIn true dk da ρ X KB := h
theorem w_attr (h : da ρ X fun d ρ1 => match d with
  | .ob C' lay' xs => C' = C ∧ lay' = lay ∧ ∃ x, xs[j]? = some x ∧ K x ρ1
  | _ => False) : eAttr C lay j da ρ X K := h
theorem w_ex {α : Type} {p : α → Prop} {q : Prop} {x : α} {o : Option α} {k : α → Prop} (g : o = some x) (h : k x) : ∃ d, o = some d ∧ k d := ⟨x, g, h⟩
theorem w_exA {xs : List D} {k : Int} {q : D → Prop} (g : atI xs k = some d) (h : q d) : ∃ d, atI xs k = some d ∧ q d := ⟨d, g, h⟩
theorem w_attr2 {xs : List D} {x : D} {k : D → Prop} (g : xs[j]? = some x) (h : k x) : C = C ∧ lay = lay ∧ ∃ x, xs[j]? = some x ∧ k x := ⟨rfl, rfl, x, g, h⟩
theorem w_slice (h : da ρ X fun x ρ1 => dl ρ1 X fun lo ρ2 => dh ρ2 X fun hi ρ3 => dSl x lo hi fun z => K z ρ3) : eSl da dl dh ρ X K := h
theorem w_on (h : KO none ρ) : oNone ρ X KO := h
theorem w_os (h : de ρ X fun d ρ1 => match d with
  | .int i => KO (some i) ρ1
  | _ => False) : oSome de ρ X KO := h
theorem w_slT {xs : List D} {lo hi : Option Int} (h : Q (.tuple (cutD xs lo hi))) : dSl (.tuple xs) lo hi Q := h
theorem w_slL {xs : List D} {lo hi : Option Int} (h : Q (.list (cutD xs lo hi))) : dSl (.list xs) lo hi Q := h
/-! calls -/
theorem w_call (h : das ρ X fun as ρ1 => as.length = n ∧ borOk ρ1 as = true ∧ dc (argsOf ρ1 as) (fun x outs => X x (putOuts as outs ρ1)) fun r outs => K r.toD (putOuts as outs ρ1)) : eCall n dc das ρ X K := h
theorem w_ncall (h : das ρ X fun as ρ1 => as.length = n ∧ borOk ρ1 as = true ∧ dc (argsOf ρ1 as) (fun x outs => X x (putOuts as outs ρ1)) fun r outs => match r with
  | .d _ => False
  | .nw c => KN c (putOuts as outs ρ1)) : nCall n dc das ρ X KN := h
theorem w_and3 {A : Prop} {as : List AV} (h1 : as.length = n) (h2 : borOk ρ as = true) (h : A) : as.length = n ∧ borOk ρ as = true ∧ A := ⟨h1, h2, h⟩
theorem w_callK {π : List Nat} (h : das ρ X fun as ρ1 => allD as fun ds => ds.length = m ∧ (perm π ds).length = n ∧ dc ((perm π ds).map .fz) (fun _ _ => False) fun r _ => K r.toD ρ1) : eCallK n m π dc das ρ X K := h
theorem w_and3K {A : Prop} {π : List Nat} (h1 : ds.length = m) (h2 : (perm π ds).length = n) (h : A) : ds.length = m ∧ (perm π ds).length = n ∧ A := ⟨h1, h2, h⟩
theorem w_make (h : das ρ X fun as ρ1 => allD as fun ds => ds.length + 1 = n ∧ dc (.ow true (.ins C [] []) :: ds.map .fz) (fun _ _ => False) fun r outs => r = .d .none ∧ match outs with
  | .ow _ c :: _ => KN c ρ1
  | _ => False) : nMake C n dc das ρ X KN := h
theorem w_fldS {f : Str} {xs : List D} {bb : Bool} (g : gt ρ i = .ow bb (.ins C lay xs)) (h : ofS (fldGet f lay xs) fun d => K d ρ) : eFldS C f i ρ X K := by unfold eFldS; rw [g]; exact ⟨rfl, h⟩
theorem w_fld {f : Str} (h : dv ρ P.ex fun y ρ1 => owC (gt ρ1 i) fun b c => match c with
  | .ins C' lay xs => C' = C ∧ xs.length < 900 ∧ P.nx (ρ1.set i (.ow b (.ins C (fldPut f y lay xs).1 (fldPut f y lay xs).2)))
  | _ => False) : dFld C f i dv ρ P := h
theorem w_eB {fb : DB} (h : das ρ X fun as ρ' => allD as fun ds => fb ds fun z => K z ρ') : eB fb das ρ X K := h
/-! tests -/
theorem w_bV (h : de ρ X fun d ρ' => asB d fun b => KB b ρ') : bV de ρ X KB := h
theorem w_bAnd (h : ta ρ X fun c ρ1 => if c = true then tb ρ1 X KB else KB false ρ1) : bAnd ta tb ρ X KB := h
theorem w_bOr (h : ta ρ X fun c ρ1 => if c = true then KB true ρ1 else tb ρ1 X KB) : bOr ta tb ρ X KB := h
theorem w_bNot (h : ta ρ X fun c ρ1 => KB (!c) ρ1) : bNot ta ρ X KB := h
theorem w_bYes (h : KB true ρ) : bYes ρ X KB := h
/-! operators on data -/
theorem w_addI {a b : Int} (h : Q (.int (a + b))) : dAdd (.int a) (.int b) Q := h
theorem w_addT {xs ys : List D} (hl : xs.length + ys.length ≤ sizeLine) (h : Q (.tuple (xs ++ ys))) : dAdd (.tuple xs) (.tuple ys) Q := ⟨hl, h⟩
theorem w_addL {xs ys : List D} (hl : xs.length + ys.length ≤ sizeLine) (h : Q (.list (xs ++ ys))) : dAdd (.list xs) (.list ys) Q := ⟨hl, h⟩
theorem w_dII {cc : Int → Int → Prop} {g : Int → Int → D} {a b : Int} (hc : cc a b) (h : Q (g a b)) : dII cc g (.int a) (.int b) Q := ⟨hc, h⟩
theorem w_dI0 {g : Int → Int → D} {a b : Int} (h : Q (g a b)) : dI0 g (.int a) (.int b) Q := h
theorem w_mulI {a b : Int} (hc : CMul a b) (h : Q (.int (a * b))) : dMul (.int a) (.int b) Q := ⟨hc, h⟩
theorem w_mulT {xs : List D} {k : Int} (hc : -1000 ≤ k ∧ k ≤ 1000 ∧ xs.length ≤ 1000) (h : Q (.tuple (List.replicate k.toNat xs).flatten)) : dMulT (.tuple xs) (.int k) Q := ⟨hc, h⟩
theorem w_eq {neg : Bool} (hc : D.ok 60 d = true ∧ D.ok 60 e = true) (h : Q (.bool (if neg then !deq d e else deq d e))) : dEqD neg d e Q := ⟨hc, h⟩
theorem ok_int (n : Nat) (i : Int) : D.ok n (.int i) = true := by cases n <;> rfl
theorem deq_int (i j : Int) : deq (.int i) (.int j) = decide (i = j) := by
  unfold deq D.py PyData.eqv
  exact Bool.beq_eq_decide_eq _ _
theorem w_eqI {a b : Int} (h : Q (.bool (decide (a = b)))) : dEqD false (.int a) (.int b) Q := ⟨⟨ok_int _ _, ok_int _ _⟩, by rw [if_neg (by decide), deq_int]; exact h⟩
theorem w_neI {a b : Int} (h : Q (.bool (!decide (a = b)))) : dEqD true (.int a) (.int b) Q := ⟨⟨ok_int _ _, ok_int _ _⟩, by rw [if_pos rfl, deq_int]; exact h⟩
theorem w_isN {neg : Bool} (h : Q (.bool (if neg then !isNoneD d else isNoneD d))) : dIsN neg d .none Q := h
theorem w_isB {neg a b : Bool} (h : Q (.bool (if neg then !decide (a = b) else decide (a = b)))) : dIsB neg (.bool a) (.bool b) Q := h
theorem w_ixL {xs : List D} {k : Int} (g : atI xs k = some d) (h : Q d) : dIx (.list xs) (.int k) Q := ⟨d, g, h⟩
theorem w_ixT {xs : List D} {k : Int} (g : atI xs k = some d) (h : Q d) : dIx (.tuple xs) (.int k) Q := ⟨d, g, h⟩
theorem w_ixR {xs : List D} {k : Int} (g : atI xs k = some d) (h : Q d) : dIx (.rol xs) (.int k) Q := ⟨d, g, h⟩
theorem w_inL {ys : List D} (hc : D.ok 60 d = true ∧ D.ok 60 (.list ys) = true) (h : Q (.bool (ys.any fun z => deq z d))) : dIn d (.list ys) Q := ⟨hc, h⟩
/-! built-ins -/
theorem w_lenL {xs : List D} (h : Q (.int xs.length)) : fLen [.list xs] Q := h
theorem w_lenT {xs : List D} (h : Q (.int xs.length)) : fLen [.tuple xs] Q := h
theorem w_lenR {xs : List D} (h : Q (.int xs.length)) : fLen [.rol xs] Q := h
theorem w_abs {a : Int} (h : Q (.int a.natAbs)) : fAbs [.int a] Q := h
theorem w_int {a : Int} (h : Q (.int a)) : fInt [.int a] Q := h
theorem w_min {a b : Int} (h : Q (.int (min a b))) : fMin [.int a, .int b] Q := h
theorem w_max {a b : Int} (h : Q (.int (max a b))) : fMax [.int a, .int b] Q := h
theorem w_tupL {xs : List D} (h : Q (.tuple xs)) : fTuple [.list xs] Q := h
theorem w_tupT {xs : List D} (h : Q (.tuple xs)) : fTuple [.tuple xs] Q := h
theorem w_lstD {kvs : List (Key × D)} (h : Q (.list (kvs.map fun kv => keyD kv.1))) : fListD [.dict kvs] Q := h
theorem w_sort {ns : List Int} {xs : List D} (g : asInts xs = some ns) (h : ∀ ns' : List Int, ns'.Perm ns → ns'.Pairwise (· ≤ ·) → Q (.list (ns'.map .int))) : fSortI [.list xs] Q := show ofS (asInts xs) _ from w_ofS g h
theorem w_any {bs : List Bool} {xs : List D} (g : asBools xs = some bs) (h : Q (.bool (bs.any id))) : fAny [.list xs] Q := show ofS (asBools xs) _ from w_ofS g h
theorem w_all {bs : List Bool} {xs : List D} (g : asBools xs = some bs) (h : Q (.bool (bs.all id))) : fAll [.list xs] Q := show ofS (asBools xs) _ from w_ofS g h
theorem w_repr (g : d.shows = true) (h : Q (.str d.py.shown)) : fRepr [d] Q := ⟨g, h⟩
/-! walks -/
theorem w_iseq (h : da ρ X fun d ρ1 => seqD d fun xs => KI xs ρ1) : iSeq da ρ X KI := h
theorem w_sqL {xs : List D} (h : QL xs) : seqD (.list xs) QL := h
theorem w_sqT {xs : List D} (h : QL xs) : seqD (.tuple xs) QL := h
theorem w_ir1 {a : Int} (ha : inR a) (g : ∀ k : List AV → Env → Prop, k [.d (.int a)] ρ1 → das ρ X k) (h : KI (rangeD 0 1 a.toNat) ρ1) : iR1 das ρ X KI := g _ ⟨ha, h⟩
theorem w_ir2 {a b : Int} (ha : inR a) (hb : inR b) (g : ∀ k : List AV → Env → Prop, k [.d (.int a), .d (.int b)] ρ1 → das ρ X k) (h : KI (rangeD a 1 (b - a).toNat) ρ1) : iR2 das ρ X KI := g _ ⟨ha, hb, h⟩
theorem w_ien (h : das ρ X fun as ρ1 => allD as fun ds => match ds with
  | [d] => seqD d fun xs => KI (enumD 0 xs) ρ1
  | _ => False) : iEn das ρ X KI := h
theorem w_izp (h : das ρ X fun as ρ1 => allD as fun ds => match ds with
  | [.list xs, .list ys] => KI (zipD xs ys) ρ1
  | [.tuple xs, .tuple ys] => KI (zipD xs ys) ρ1
  | _ => False) : iZp das ρ X KI := h
theorem w_ir1' (h : das ρ X fun as ρ1 => allD as fun ds => match ds with
  | [.int j] => inR j ∧ KI (rangeD 0 1 j.toNat) ρ1
  | _ => False) : iR1 das ρ X KI := h
theorem w_ir2' (h : das ρ X fun as ρ1 => allD as fun ds => match ds with
  | [.int i, .int j] => inR i ∧ inR j ∧ KI (rangeD i 1 (j - i).toNat) ρ1
  | _ => False) : iR2 das ρ X KI := h
theorem w_inR {a : Int} {A : Prop} (ha : inR a) (h : A) : inR a ∧ A := ⟨ha, h⟩
theorem w_itv (g : gt ρ i = .fz d) (q : dItems d = some ds) (h : KI ds ρ) : iItV i ρ X KI := by unfold iItV ofFz; rw [g]; exact w_ofS q h
theorem w_kyv (g : gt ρ i = .fz d) (q : dKeys d = some ds) (h : KI ds ρ) : iKyV i ρ X KI := by unfold iKyV ofFz; rw [g]; exact w_ofS q h
theorem w_itn (h : dn ρ X fun c ρ1 => ofS (dItems c.d) fun ds => KI ds ρ1) : iItN dn ρ X KI := h
theorem w_nlc {dt : DT} {vs : List Nat} (h : di ρ X fun ds ρ1 => ds.length ≤ 1000000 ∧ lcL dg dt de vs ds [] (wipeE vs ρ1) fun acc ρ2 => KN (.lst acc) (restE vs ρ1 (wipeE vs ρ2))) : nLC di dg dt de vs ρ X KN := h
theorem w_ndc {dt : DT} {vs : List Nat} (h : di ρ X fun ds ρ1 => ds.length ≤ 1000000 ∧ dcL dg dt dk dv vs ds [] (wipeE vs ρ1) fun acc ρ2 => KN (.dct acc) (restE vs ρ1 (wipeE vs ρ2))) : nDC di dg dt dk dv vs ρ X KN := h
/-! loops -/
theorem forL_go {I : List D → Env → Prop} (hs : ∀ d ds ρ (Kx : Env → Prop), (∀ ρ', I ds ρ' → Kx ρ') → I (d :: ds) ρ → dg d ρ fun ρ1 => s ρ1 { nx := Kx, rt := P.rt, bk := P.nx, ct := Kx, ex := P.ex }) (he : ∀ ρ, I [] ρ → P.nx ρ) : ∀ {ds : List D} {ρ : Env}, I ds ρ → forL dg s ds ρ P
  | [], _, h => he _ h
  | d :: ds, ρ, h => hs d ds ρ (fun ρ' => forL dg s ds ρ' P) (fun ρ' q => forL_go hs he q) h
theorem lcL_go {dt : DT} {vs : List Nat} {I : List D → List D → Env → Prop} {Kl : List D → Env → Prop} (hs : ∀ d ds acc ρ (Kx : List D → Env → Prop), (∀ acc' ρ', I ds acc' ρ' → Kx acc' ρ') → I (d :: ds) acc ρ → dg d ρ fun ρ1 => dt ρ1 X0 fun b ρ2 => if b = true then de ρ2 X0 fun y ρ3 => Kx (acc ++ [y]) (wipeE vs ρ3) else Kx acc (wipeE vs ρ2))
    (he : ∀ acc ρ, I [] acc ρ → Kl acc ρ) : ∀ {ds acc : List D} {ρ : Env}, I ds acc ρ → lcL dg dt de vs ds acc ρ Kl
  | [], _, _, h => he _ _ h
  | d :: ds, acc, ρ, h => hs d ds acc ρ (fun acc' ρ' => lcL dg dt de vs ds acc' ρ' Kl) (fun acc' ρ' q => lcL_go hs he q) h
theorem dcL_go {dt : DT} {vs : List Nat} {I : List D → List (Key × D) → Env → Prop} {Kl : List (Key × D) → Env → Prop} (hs : ∀ d ds acc ρ (Kx : List (Key × D) → Env → Prop), (∀ acc' ρ', I ds acc' ρ' → Kx acc' ρ') → I (d :: ds) acc ρ → dg d ρ fun ρ1 => dt ρ1 X0 fun b ρ2 => if b = true then dk ρ2 X0 fun k ρ3 => dv ρ3 X0 fun v ρ4 => ofS k.key fun kk => Kx (dPut acc kk v) (wipeE vs ρ4) else Kx acc (wipeE vs ρ2))
    (he : ∀ acc ρ, I [] acc ρ → Kl acc ρ) : ∀ {ds : List D} {acc : List (Key × D)} {ρ : Env}, I ds acc ρ → dcL dg dt dk dv vs ds acc ρ Kl
  | [], _, _, h => he _ _ h
  | d :: ds, acc, ρ, h => hs d ds acc ρ (fun acc' ρ' => dcL dg dt dk dv vs ds acc' ρ' Kl) (fun acc' ρ' q => dcL_go hs he q) h
theorem while_go {I : Nat → Env → Prop} (hs : ∀ k ρ (Kx : Env → Prop), (∀ j ρ', j < k → I j ρ' → Kx ρ') → I k ρ → ta ρ P.ex fun b ρ1 => if b = true then s ρ1 { nx := Kx, rt := P.rt, bk := P.nx, ct := Kx, ex := P.ex } else P.nx ρ1) : ∀ {k : Nat} {ρ : Env}, I k ρ → dWhile ta s ρ P := by
  have key : ∀ k ρ, I k ρ → ∀ n, k < n → whileN ta s n ρ P := by
    intro k
    induction k using Nat.strongRecOn with
    | _ k ih =>
      intro ρ h n hn
      cases n with
      | zero => omega
      | succ n => exact hs k ρ (fun ρ' => whileN ta s n ρ' P) (fun j ρ' hj q => ih j hj ρ' q n (by omega)) h
  exact fun {k ρ} h => ⟨k + 1, key k ρ h (k + 1) (Nat.lt_succ_self k)⟩
end
end DL
namespace DL
section
variable {dg : DG} {dt : DT} {de dk dv : DE} {vs : List Nat} {ρ : Env}
/-- a comprehension that maps -/
theorem lcL_map (f : D → D) {Kl : List D → Env → Prop} : ∀ {ds acc : List D}, (∀ d ∈ ds, ∀ K : D → Env → Prop, (∀ ρ3, wipeE vs ρ3 = ρ → K (f d) ρ3) → dg d ρ fun ρ1 => de ρ1 X0 K) → Kl (acc ++ ds.map f) ρ → lcL dg bYes de vs ds acc ρ Kl
  | [], acc, _, hk => by
    show Kl acc ρ
    simpa using hk
  | d :: ds, acc, h, hk => h d (by simp) (fun y ρ3 => lcL dg bYes de vs ds (acc ++ [y]) (wipeE vs ρ3) Kl) fun ρ3 e => by
    rw [e]
    exact lcL_map f (fun x hx => h x (by simp [hx])) (by simpa using hk)
/-- .. that maps and drops -/
theorem lcL_filter (p : D → Bool) (f : D → D) {Kl : List D → Env → Prop} : ∀ {ds acc : List D}, (∀ d ∈ ds, ∀ (K : Bool → Env → Prop), (∀ ρ2, wipeE vs ρ2 = ρ → (∀ K2 : D → Env → Prop, (∀ ρ3, wipeE vs ρ3 = ρ → K2 (f d) ρ3) → de ρ2 X0 K2) → K (p d) ρ2) → dg d ρ fun ρ1 => dt ρ1 X0 K) → Kl (acc ++ (ds.filter p).map f) ρ → lcL dg dt de vs ds acc ρ Kl
  | [], acc, _, hk => by
    show Kl acc ρ
    simpa using hk
  | d :: ds, acc, h, hk => h d (by simp) (fun b ρ2 => if b = true then de ρ2 X0 fun y ρ3 => lcL dg dt de vs ds (acc ++ [y]) (wipeE vs ρ3) Kl else lcL dg dt de vs ds acc (wipeE vs ρ2) Kl) fun ρ2 e he => by
    cases q : p d with
    | true =>
      rw [if_pos rfl]
      refine he _ fun ρ3 e3 => ?_
      rw [e3]
      exact lcL_filter p f (fun x hx => h x (by simp [hx])) (by simpa [List.filter_cons, q] using hk)
    | false =>
      rw [if_neg (by decide), e]
      exact lcL_filter p f (fun x hx => h x (by simp [hx])) (by simpa [List.filter_cons, q] using hk)
end
end DL
set_option Elab.async false
set_option linter.all false
set_option maxRecDepth 100000
set_option maxHeartbeats 1000000
/-! DL32: what repr may show: bounds that add up. -/
namespace DL
open PySem L2 Evl PySem.Spec PyProof.Rows
variable [Tbs]
theorem so_app {x y : Str} (hx : PyData.strOk x = true) (hy : PyData.strOk y = true) : PyData.strOk (x ++ y) = true := by
  show ((x.cps ++ y.cps).all fun x => decide (x < 1114112)) = true
  rw [Array.all_append]
  unfold PyData.strOk at hx hy
  rw [hx, hy]; rfl
theorem so_join : ∀ (ts : List Str), (∀ t ∈ ts, PyData.strOk t = true) → PyData.strOk ((Str.ofString ", ").join ts) = true
  | [], _ => by with_unfolding_all decide
  | [t], h => h t (by simp)
  | t :: u :: ts, h => by
    have ih := so_join (u :: ts) fun x hx => h x (List.mem_cons_of_mem _ hx)
    show PyData.strOk ((t ++ Str.ofString ", ") ++ (Str.ofString ", ").join (u :: ts)) = true
    exact so_app (so_app (h t (by simp)) (by with_unfolding_all decide)) ih
structure Shw (d : D) (k z : Nat) : Prop where
  ok : ∀ m, k ≤ m → D.ok m d = true
  sh : d.py.showable = true
  nd : d.py.hasDict = false
  dp : d.py.depth ≤ k
  ln : d.py.shown.length ≤ z
  eq : d.py.eqv d.py = true
  so : PyData.strOk d.py.shown = true
theorem Shw.shows {d : D} {k z : Nat} (s : Shw d k z) (hk : k ≤ 40) (hz : z ≤ 1000000) : d.shows = true := by
  unfold D.shows
  rw [s.ok 60 (by omega), s.sh, s.nd, decide_eq_true (Nat.le_trans s.dp hk), decide_eq_true (Nat.le_trans s.ln (Nat.le_trans hz (by rw [sizeLine_eq]; decide)))]
  rfl
theorem shw_none : Shw .none 0 4 := ⟨fun m _ => by cases m <;> rfl, rfl, rfl, Nat.le_refl _, by decide, rfl, by with_unfolding_all decide⟩
theorem shw_dig {n : Nat} (h : n ≤ 9) : Shw (.int n) 0 1 := by
  refine ⟨fun m _ => by cases m <;> rfl, ?_, rfl, Nat.le_refl _, ?_, by show ((n : Int) == (n : Int)) = true; simp, ?_⟩
  · have : n = 0 ∨ n = 1 ∨ n = 2 ∨ n = 3 ∨ n = 4 ∨ n = 5 ∨ n = 6 ∨ n = 7 ∨ n = 8 ∨ n = 9 := by omega
    rcases this with h | h | h | h | h | h | h | h | h | h <;> subst h <;> with_unfolding_all rfl
  · have : n = 0 ∨ n = 1 ∨ n = 2 ∨ n = 3 ∨ n = 4 ∨ n = 5 ∨ n = 6 ∨ n = 7 ∨ n = 8 ∨ n = 9 := by omega
    rcases this with h | h | h | h | h | h | h | h | h | h <;> subst h <;> with_unfolding_all decide
  · have : n = 0 ∨ n = 1 ∨ n = 2 ∨ n = 3 ∨ n = 4 ∨ n = 5 ∨ n = 6 ∨ n = 7 ∨ n = 8 ∨ n = 9 := by omega
    rcases this with h | h | h | h | h | h | h | h | h | h <;> subst h <;> with_unfolding_all decide
theorem shw_turn : Shw (.str (Str.ofString "turn")) 0 6 := ⟨fun m _ => by cases m <;> with_unfolding_all rfl, rfl, rfl, Nat.le_refl _, by with_unfolding_all decide, by show (Str.ofString "turn" == Str.ofString "turn") = true; simp, by with_unfolding_all decide⟩
theorem Shw.imp {d : D} {k z k' z' : Nat} (s : Shw d k z) (hk : k ≤ k') (hz : z ≤ z') : Shw d k' z' := ⟨fun m hm => s.ok m (by omega), s.sh, s.nd, Nat.le_trans s.dp hk, Nat.le_trans s.ln hz, s.eq, s.so⟩
theorem Shw.deq {d : D} {k z : Nat} (s : Shw d k z) : deq d d = true := s.eq
def jz : List Nat → Nat
  | [] => 0
  | x :: xs => x + 2 + jz xs
theorem join_le : ∀ (ts : List Str), ((Str.ofString ", ").join ts).length ≤ jz (ts.map (·.length))
  | [] => by with_unfolding_all decide
  | [t] => by show t.length ≤ t.length + 2 + 0; omega
  | t :: u :: ts => by
    have ih := join_le (u :: ts)
    show ((t ++ Str.ofString ", ") ++ (Str.ofString ", ").join (u :: ts)).length ≤ t.length + 2 + jz ((u :: ts).map (·.length))
    rw [Str.length_append, Str.length_append, show (Str.ofString ", ").length = 2 by with_unfolding_all rfl]
    omega
theorem jz_le {z : Nat} : ∀ {xs : List Nat}, (∀ x ∈ xs, x ≤ z) → jz xs ≤ xs.length * (z + 2)
  | [], _ => by simp [jz]
  | x :: xs, h => by
    have h1 := h x (by simp)
    have h2 := jz_le (xs := xs) fun y hy => h y (by simp [hy])
    rw [List.length_cons, Nat.succ_mul]
    show x + 2 + jz xs ≤ _
    omega
theorem shownAll_map : ∀ xs : List D, PyData.shownAll (pys xs) = xs.map fun d => d.py.shown
  | [] => rfl
  | x :: xs => by
    show x.py.shown :: PyData.shownAll (pys xs) = _
    rw [shownAll_map xs]; rfl
theorem shw_tup {xs : List D} {k z : Nat} (h : ∀ x ∈ xs, Shw x k z) : Shw (.tuple xs) (k + 1) (xs.length * (z + 2) + 3) := by
  have all : ∀ (ys : List D), (∀ x ∈ ys, Shw x k z) → (∀ m, k ≤ m → oks m ys = true) ∧ PyData.showableAll (pys ys) = true ∧ PyData.hasDictAll (pys ys) = false ∧ PyData.depthAll (pys ys) ≤ k ∧ PyData.eqvAll (pys ys) (pys ys) = true := by
    intro ys
    induction ys with
    | nil => exact fun _ => ⟨fun m _ => by cases m <;> rfl, rfl, rfl, Nat.zero_le _, rfl⟩
    | cons y ys ih =>
      intro hy
      obtain ⟨i1, i2, i3, i4, i5⟩ := ih fun x hx => hy x (by simp [hx])
      have s := hy y (by simp)
      refine ⟨fun m hm => ?_, ?_, ?_, ?_, ?_⟩
      · show (D.ok m y && oks m ys) = true
        rw [s.ok m hm, i1 m hm]; rfl
      · show (y.py.showable && PyData.showableAll (pys ys)) = true
        rw [s.sh, i2]; rfl
      · show (y.py.hasDict || PyData.hasDictAll (pys ys)) = false
        rw [s.nd, i3]; rfl
      · show max y.py.depth (PyData.depthAll (pys ys)) ≤ k
        exact Nat.max_le.mpr ⟨s.dp, i4⟩
      · show (y.py.eqv y.py && PyData.eqvAll (pys ys) (pys ys)) = true
        rw [s.eq, i5]; rfl
  obtain ⟨a1, a2, a3, a4, a5⟩ := all xs h
  refine ⟨fun m hm => ?_, a2, a3, Nat.succ_le_succ a4, ?_, a5, ?_⟩
  · obtain ⟨j, rfl⟩ : ∃ j, m = j + 1 := ⟨m - 1, by omega⟩
    exact a1 j (by omega)
  · show (tupleText (PyData.shownAll (pys xs))).length ≤ _
    rw [shownAll_map]
    unfold tupleText
    rw [Str.length_append, Str.length_append, show (Str.ofString "(").length = 1 by with_unfolding_all rfl]
    have h1 := join_le (xs.map fun d => d.py.shown)
    have h2 : jz ((xs.map fun d => d.py.shown).map (·.length)) ≤ xs.length * (z + 2) := by
      have := jz_le (z := z) (xs := (xs.map fun d => d.py.shown).map (·.length)) fun x hx => by
        rw [List.map_map] at hx
        obtain ⟨y, hy, rfl⟩ := List.mem_map.mp hx
        exact (h y hy).ln
      simpa using this
    have h3 : (Str.ofString (if ((xs.map fun d => d.py.shown).length == 1) = true then ",)" else ")")).length ≤ 2 := by
      by_cases q : ((xs.map fun d => d.py.shown).length == 1) = true
      · rw [if_pos q]; with_unfolding_all decide
      · rw [if_neg q]; with_unfolding_all decide
    omega
  · show PyData.strOk (tupleText (PyData.shownAll (pys xs))) = true
    rw [shownAll_map]
    unfold tupleText
    refine so_app (so_app (by with_unfolding_all decide) (so_join _ fun t ht => ?_)) ?_
    · obtain ⟨y, hy, rfl⟩ := List.mem_map.mp ht
      exact (h y hy).so
    · by_cases q : ((xs.map fun d => d.py.shown).length == 1) = true
      · rw [if_pos q]; with_unfolding_all decide
      · rw [if_neg q]; with_unfolding_all decide
theorem Shw.okS {d : D} {k z : Nat} (s : Shw d k z) : D.ok 60 (.str d.py.shown) = true := s.so
theorem deq_str (x : Str) : deq (.str x) (.str x) = true := by
  unfold deq D.py PyData.eqv
  simp
end DL
set_option Elab.async false
set_option linter.all false
set_option maxRecDepth 100000
set_option maxHeartbeats 1000000
/-! DL33: the law's call, from its contract. -/
namespace DL
open PySem L2 Evl PySem.Spec PyProof.Rows
variable [Tbs]
theorem reps_ints {K : PySem.W.Frag} {F : Hp} : ∀ ns : List Int, Reps K F (ns.map V.int) (ns.map D.int)
  | [] => .nil
  | i :: ns => .cons (.int i) (reps_ints ns)
theorem spD_lawT {K : PySem.W.Frag} {dc : DC} {H : Hp} {a : Addr} {ns : List Int} (hS : SqL K H a (ns.map V.int)) (hT : ∀ p ∈ Tbs.T, LamX.TabS H p.1 p.2)
    (h : dc [.fz (.rol (ns.map .int))] (fun _ _ => False) fun r _ => r = .d (.bool true)) (mo : MonoC dc) : spD K 1 dc [.ref a] H (fun v _ => v = .bl true) fun _ _ _ => False := by
  classical
  let F : Hp := fun b => if isTab b then none else H b
  have F_of : ∀ b u, F b = some u → H b = some u := fun b u z => by
    by_cases q : isTab b
    · rw [show F b = none from if_pos q] at z; cases z
    · rwa [show F b = H b from if_neg q] at z
  have F_at : ∀ b u, H b = some u → (∀ ps, u ≠ .tbl ps) → F b = some u := fun b u z n => by
    have q : ¬ isTab b := fun ⟨p, hp, e⟩ => by
      obtain ⟨ps, t, _⟩ := hT p hp
      rw [e, z] at t
      exact n ps (by simpa using t)
    rw [show F b = H b from if_neg q]; exact z
  have hS' : SqL K F a (ns.map V.int) := by
    rcases hS with (h | ⟨o, h⟩) | h
    · exact .inl (.inl (F_at _ _ h fun _ z => nomatch z))
    · exact .inl (.inr ⟨o, F_at _ _ h fun _ z => nomatch z⟩)
    · exact .inr h
  refine ⟨rfl, ⟨fun _ => none, F, H, [some (.ref a)]⟩, F, [.fz (.rol (ns.map .int))], ⟨fun b u z => .inl (F_of b u z), fun _ _ z => (nomatch z), fun _ z => .inl z, Ex.refl _, Thr.refl _, rfl, fun i => ?_, fun i j b h1 => ?_, fun p hp => ⟨hT p hp, if_pos ⟨p, hp, rfl⟩, rfl⟩⟩, ?_⟩
  · match i with
    | 0 => exact ⟨_, rfl, .ro hS' (reps_ints ns)⟩
    | _ + 1 => trivial
  · match i, h1 with
    | 0, h1 => cases h1
    | _ + 1, h1 => cases h1
  · refine mo.go (fun x o q => q.elim) (fun r o q v F' H' e S rv => ?_) h
    subst q
    cases rv
    rfl
end DL
set_option Elab.async false
set_option linter.all false
set_option maxRecDepth 100000
set_option maxHeartbeats 1000000
/-! DL34: dicts with nested keys: read, written. -/
namespace DL
open PySem L2 Evl PyProof.Rows
variable [Tbs]
mutual
def D.nk : D → Option NestedKey
  | .int i => some (.num i)
  | .tuple xs => (nksOf xs).map .tup
  | .none => some .none
  | .bool _ => Option.none
  | .str _ => Option.none
  | .list _ => Option.none
  | .rol _ => Option.none
  | .dict _ => Option.none
  | .dictT _ => Option.none
  | .dictN _ => Option.none
  | .ob _ _ _ => Option.none
  | .exn _ _ _ _ _ => Option.none
def nksOf : List D → Option (List NestedKey)
  | [] => some []
  | x :: xs => x.nk.bind fun k => (nksOf xs).map (k :: ·)
end
/-- a tuple as a key -/
def D.nkT : D → Option NestedKey
  | .tuple xs => (nksOf xs).bind fun ks => if (NestedKey.tup ks).depth ≤ 8 then some (.tup ks) else Option.none
  | _ => Option.none
mutual
theorem nk_data : ∀ {d : D} {k : NestedKey}, d.nk = some k → nkD k = d ∧ nkNum k = true
  | .int i, k, h => by simp [D.nk] at h; subst h; simp [nkD, nkNum]
  | .tuple xs, k, h => by
    rw [D.nk, Option.map_eq_some_iff] at h
    obtain ⟨ks, h1, rfl⟩ := h
    obtain ⟨h2, h3⟩ := nks_data h1
    rw [nkD, h2, nkNum]
    exact ⟨rfl, h3⟩
  | .none, k, h => by simp [D.nk] at h; subst h; simp [nkD, nkNum]
  | .bool _, _, h => by simp [D.nk] at h
  | .str _, _, h => by simp [D.nk] at h
  | .list _, _, h => by simp [D.nk] at h
  | .rol _, _, h => by simp [D.nk] at h
  | .dict _, _, h => by simp [D.nk] at h
  | .dictT _, _, h => by simp [D.nk] at h
  | .dictN _, _, h => by simp [D.nk] at h
  | .ob _ _ _, _, h => by simp [D.nk] at h
  | .exn _ _ _ _ _, _, h => by simp [D.nk] at h
theorem nks_data : ∀ {ds : List D} {ks : List NestedKey}, nksOf ds = some ks → nkDs ks = ds ∧ nkNums ks = true
  | [], ks, h => by simp [nksOf] at h; subst h; simp [nkDs, nkNums]
  | d :: ds, ks, h => by
    rw [nksOf, Option.bind_eq_some_iff] at h
    obtain ⟨k, h1, h2⟩ := h
    rw [Option.map_eq_some_iff] at h2
    obtain ⟨ks', h3, rfl⟩ := h2
    obtain ⟨a1, a2⟩ := nk_data h1
    obtain ⟨b1, b2⟩ := nks_data h3
    rw [nkDs, a1, b1, nkNums, a2, b2]
    exact ⟨rfl, rfl⟩
end
theorem nkT_data {d : D} {k : NestedKey} (h : d.nkT = some k) : nkD k = d ∧ nkNum k = true ∧ k.depth ≤ 8 := by
  cases d with
  | tuple xs =>
    have h : (nksOf xs).bind (fun ks => if (NestedKey.tup ks).depth ≤ 8 then some (NestedKey.tup ks) else Option.none) = some k := h
    rw [Option.bind_eq_some_iff] at h
    obtain ⟨ks, h1, h2⟩ := h
    by_cases q : (NestedKey.tup ks).depth ≤ 8
    · rw [if_pos q] at h2
      cases h2
      obtain ⟨h3, h4⟩ := nks_data h1
      rw [nkD, h3, nkNum]
      exact ⟨rfl, h4, q⟩
    · rw [if_neg q] at h2; cases h2
  | _ => cases h
section
variable {K : PySem.W.Frag} {F F' H : Hp}
mutual
theorem keyV_rep (e : ExL F H) : ∀ {k : NestedKey} {v : V}, nkNum k = true → Rep K F v (nkD k) → KeyV H k v
  | .num i, v, _, r => by rw [nkD] at r; cases r.int_inv; exact .num i
  | .tup ks, v, h, r => by
    rw [nkD] at r
    obtain ⟨b, vs, rfl, hb, r⟩ := r.tuple_inv2
    exact .tup (e.on hb) (keyVs_rep e (by simpa [nkNum] using h) r)
  | .none, v, _, r => by rw [nkD] at r; cases r.none_inv; exact .none
  | .text _, _, h, _ => by simp [nkNum] at h
theorem keyVs_rep (e : ExL F H) : ∀ {ks : List NestedKey} {vs : List V}, nkNums ks = true → Reps K F vs (nkDs ks) → KeyVs H ks vs
  | [], vs, _, r => by rw [nkDs] at r; cases r; exact .nil
  | k :: ks, vs, h, r => by
    rw [nkDs] at r
    rw [nkNums, Bool.and_eq_true] at h
    cases r with
    | cons r t => exact .cons (keyV_rep e h.1 r) (keyVs_rep e h.2 t)
end
theorem NReps.keys (e : ExL F H) : ∀ {ws : NW} {kvs : List (NestedKey × D)}, NReps K F ws kvs → NKeys H ws
  | _, _, .nil => fun p hp => by simp at hp
  | _, _, .cons h1 h2 r1 r t => fun p hp => by
    rcases List.mem_cons.mp hp with rfl | hp
    · exact ⟨keyV_rep e h2 r1, h1⟩
    · exact NReps.keys e t p hp
theorem NReps.val {k : NestedKey} : ∀ {ws : NW} {kvs : List (NestedKey × D)}, NReps K F ws kvs → (dVal kvs k = none → valN ws k = none) ∧ ∀ d, dVal kvs k = some d → ∃ v, valN ws k = some v ∧ Rep K F v d
  | [], [], .nil => ⟨fun _ => rfl, fun d h => by simp [dVal] at h⟩
  | (k1, b, v) :: ws, (_, d) :: kvs, .cons _ _ _ r t => by
    by_cases q : k1 = k
    · have e1 : valN ((k1, b, v) :: ws) k = some v := by simp [valN, List.find?_cons, q]
      have : dVal ((k1, d) :: kvs) k = some d := by simp [dVal, List.find?_cons, q]
      rw [this, e1]
      refine ⟨fun h => (nomatch h), fun d' h => ?_⟩
      obtain rfl : d = d' := by simpa using h
      exact ⟨v, rfl, r⟩
    · have e1 : valN ((k1, b, v) :: ws) k = valN ws k := by simp [valN, List.find?_cons, q]
      have : dVal ((k1, d) :: kvs) k = dVal kvs k := by simp [dVal, List.find?_cons, q]
      rw [this, e1]
      exact NReps.val t
theorem dVal_any {κ : Type} [DecidableEq κ] (k : κ) : ∀ kvs : List (κ × D), (kvs.any fun kv => decide (kv.1 = k)) = (dVal kvs k).isSome
  | [] => rfl
  | p :: r => by
    rw [List.any_cons, dVal_any k r]
    by_cases e : p.1 = k
    · simp [dVal, List.find?_cons, e]
    · simp [dVal, List.find?_cons, e]
theorem NReps.repl {k : NestedKey} {v : V} {d : D} (rv : Rep K F v d) : ∀ {ws : NW} {kvs : List (NestedKey × D)}, NReps K F ws kvs → NReps K F (ws.map (repN k v)) (kvs.map (fun kv => if kv.1 = k then (kv.1, d) else kv))
  | [], [], .nil => .nil
  | (k1, b, v1) :: ws, (_, d1) :: kvs, .cons h1 h2 r1 r t => by
    rw [List.map_cons, List.map_cons]
    unfold repN
    by_cases q : k1 = k
    · rw [if_pos q, if_pos q]; exact .cons h1 h2 r1 rv (NReps.repl rv t)
    · rw [if_neg q, if_neg q]; exact .cons h1 h2 r1 r (NReps.repl rv t)
theorem NReps.app : ∀ {ws ws' : NW} {kvs kvs' : List (NestedKey × D)}, NReps K F ws kvs → NReps K F ws' kvs' → NReps K F (ws ++ ws') (kvs ++ kvs')
  | [], _, [], _, .nil, h => h
  | _ :: ws, _, _ :: kvs, _, .cons h1 h2 r1 r t, h => .cons h1 h2 r1 r (NReps.app t h)
theorem NReps.put {k : NestedKey} {b : Addr} {v : V} {d : D} {ws : NW} {kvs : List (NestedKey × D)} (h : NReps K F ws kvs) (h1 : k.depth ≤ 8) (h2 : nkNum k = true) (rk : Rep K F (.ref b) (nkD k)) (rv : Rep K F v d) : NReps K F (putN ws k b v) (dPut kvs k d) := by
  have e : (valN ws k).isSome = (dVal kvs k).isSome := by
    obtain ⟨z1, z2⟩ := h.val (k := k)
    cases q : dVal kvs k with
    | none => rw [z1 q]; rfl
    | some d => obtain ⟨v, e, _⟩ := z2 d q; rw [e]; rfl
  unfold putN dPut
  rw [dVal_any, e]
  by_cases q : (dVal kvs k).isSome = true
  · rw [if_pos q, if_pos q]; exact h.repl rv
  · rw [if_neg q, if_neg q]; exact h.app (.cons h1 h2 rk rv .nil)
end
/-! ### library rules -/
def NGet (H : Hp) (a : Addr) (y : V) (r : Option V) : Prop := ∃ ws k b, Rd H a (ND a ws) ∧ NKeys H ws ∧ y = .ref b ∧ KeyV H k (.ref b) ∧ k.depth ≤ 8 ∧ r = valN ws k
def NPut (H : Hp) (a : Addr) (y v : V) (H' : Hp) : Prop := ∃ ws k b, H a = some (ND a ws) ∧ NKeys H ws ∧ y = .ref b ∧ KeyV H k (.ref b) ∧ k.depth ≤ 8 ∧ ws.length < sizeLine ∧ H' = upd H a (ND a (putN ws k b v))
def tNGet (td ty : TE) : TE := fun σ H Q => td σ H fun x H1 => ty σ H1 fun y H2 => ∃ a v, x = .ref a ∧ NGet H2 a y (some v) ∧ Q v H2
def tNIn (ty td : TE) : TE := fun σ H Q => ty σ H fun y H1 => td σ H1 fun x H2 => ∃ a o, x = .ref a ∧ NGet H2 a y o ∧ Q (.bl o.isSome) H2
def tNNotIn (ty td : TE) : TE := fun σ H Q => ty σ H fun y H1 => td σ H1 fun x H2 => ∃ a o, x = .ref a ∧ NGet H2 a y o ∧ Q (.bl (!o.isSome)) H2
def rPutN : V → V → V → Hp → (Hp → Prop) → Prop := fun o i v H Q => ∃ a H', o = .ref a ∧ NPut H a i v H' ∧ Q H'
/-- d is a dict that is known -/
def IsN (H : Hp) (a : Addr) : Prop := ∃ ws, H a = some (ND a ws) ∧ NKeys H ws
def tNSetd (td ty tx : TE) : TE := fun σ H Q => td σ H fun x H1 => ∃ a, x = .ref a ∧ IsN H1 a ∧ ty σ H1 fun y H2 => tx σ H2 fun z H3 => ∃ (ws : NW) (k : NestedKey) (b : Addr), H3 a = some (ND a ws) ∧ NKeys H3 ws ∧ y = .ref b ∧ KeyV H3 k (.ref b) ∧ k.depth ≤ 8 ∧ ws.length < sizeLine ∧
  (∀ v, valN ws k = some v → Q v H3) ∧ (valN ws k = none → Q z (upd H3 a (ND a (putN ws k b z))))
section
variable {X : Cx} {o i e f : Expr} {td ty tx : TE} {pos apos cpos : Pos}
theorem hu9 {A : Around} {k : Nat} (hr : Room k A) : A.units + 9 < cLine := Nat.lt_of_le_of_lt (Nat.add_le_add_left (by decide : 9 ≤ 64) _) hr.units
theorem pe_nget (hu : X.A.units + 9 < cLine) (ho : PE X o td) (hi : PE X i ty) (hs : NoSl i) : PE X (.Subscript o i pos) (tNGet td ty) := by
  refine ⟨fun pins s σ H Q I h => ?_⟩
  refine subD_of PySem.F.slot_dict_getitem.lookup hs (thn (ho.run pins s σ H _ I h) fun u s1 ⟨x, H1, I1, rx, q1⟩ => thn (hi.run pins s1 σ H1 _ I1 q1) fun iv s2 ⟨y, H2, I2, ry, a, v, ex, g, q2⟩ => ?_)
  subst ex
  obtain rfl : u = Value.ref a := rx
  obtain ⟨ws, k, b, hw, hk, rfl, kk, kd, l⟩ := g
  obtain rfl : iv = Value.ref b := ry
  exact ⟨nd_typeIs I2 hw hk, nd_getItem hu I2 hw hk kk kd l.symm fun w' s3 I3 rw' => ⟨v, H2, I3, rw', q2⟩⟩
theorem pc_nin (hu : X.A.units + 9 < cLine) (hi : PE X i ty) (ho : PE X o td) : PC X .In i o (tNIn ty td) := by
  refine ⟨fun pins s σ H Q I h => ?_⟩
  refine thn (hi.run pins s σ H _ I h) fun iv s1 ⟨y, H1, I1, ry, q1⟩ => thn (ho.run pins s1 σ H1 _ I1 q1) fun u s2 ⟨x, H2, I2, rx, a, ov, ex, g, q2⟩ => ?_
  subst ex
  obtain rfl : u = Value.ref a := rx
  obtain ⟨ws, k, b, hw, hk, rfl, kk, kd, l⟩ := g
  obtain rfl : iv = Value.ref b := ry
  subst l
  exact nd_in hu I2 hw hk kk kd fun s3 I3 => ⟨.bl (valN ws k).isSome, H2, I3, rfl, q2⟩
theorem pc_nnotin (hu : X.A.units + 9 < cLine) (hi : PE X i ty) (ho : PE X o td) : PC X .NotIn i o (tNNotIn ty td) := by
  refine ⟨fun pins s σ H Q I h => ?_⟩
  refine thn (hi.run pins s σ H _ I h) fun iv s1 ⟨y, H1, I1, ry, q1⟩ => thn (ho.run pins s1 σ H1 _ I1 q1) fun u s2 ⟨x, H2, I2, rx, a, ov, ex, g, q2⟩ => ?_
  subst ex
  obtain rfl : u = Value.ref a := rx
  obtain ⟨ws, k, b, hw, hk, rfl, kk, kd, l⟩ := g
  obtain rfl : iv = Value.ref b := ry
  subst l
  exact nd_notIn hu I2 hw hk kk kd fun s3 I3 => ⟨.bl (!(valN ws k).isSome), H2, I3, rfl, q2⟩
theorem set_putN (hu : X.A.units + 9 < cLine) : PSet X rPutN := by
  intro pins s σ H o i v ov iv u Q I ro ri rv h
  obtain ⟨a, H', rfl, ⟨ws, k, b, hw, hk, rfl, kk, kd, hl, rfl⟩, q⟩ := h
  obtain rfl : ov = Value.ref a := ro
  obtain rfl : iv = Value.ref b := ri
  exact nd_setItem hu I hw hk kk kd hl rv fun s4 I4 => ⟨_, I4, q⟩
theorem pe_nsetd (hu : X.A.units + 9 < cLine) (ho : PE X o td) (he : PE X e ty) (hf : PE X f tx) (m : M2 X o "setdefault" apos e f cpos) : PE X (.Call (.Attribute o "setdefault" apos) [e, f] [] cpos) (tNSetd td ty tx) := by
  refine ⟨fun pins s σ H Q I h => ?_⟩
  refine wpAny_Call_method m.base m.few m.line PySem.F.plainAttrs_dict PySem.F.slot_dict_setdefault PySem.F.type_dict_setdefault (thn (ho.run pins s σ H _ I h) fun u s1 ⟨x, H1, I1, rx, a, ex, ⟨ws0, hw0, hk0⟩, q1⟩ => ?_)
  subst ex
  obtain rfl : u = Value.ref a := rx
  obtain ⟨_, _, xs, _, dd⟩ := nd_rd I1.hok (.inl hw0) hk0
  refine ⟨dd.typeIs, ?_, ?_⟩
  · intro b q
    cases q
    obtain ⟨ob, _, _, h1, h2, _⟩ := dd
    exact ⟨ob, h1, h2.2.1⟩
  rw [m.trees]
  refine Calls.callWith_builtin rfl (Calls.evalArgs_plain (Calls.spliced_cons (thn (he.run pins s1 σ H1 _ I1 q1) fun iv s2 ⟨y, H2, I2, ry, q2⟩ =>
    Calls.spliced_cons (thn (hf.run pins s2 σ H2 _ I2 q2) fun fv s3 ⟨z, H3, I3, rz, ws, k, b, hw, hk, ey, kk, kd, hl, q3, q4⟩ => Calls.spliced_nil ?_))))
  subst ey
  obtain rfl : iv = Value.ref b := ry
  exact nd_setd hu I3 hw hk kk kd hl rz (fun v hv w' s4 I4 rw' => ⟨v, _, I4, rw', q3 v hv⟩) fun hn s4 I4 => ⟨z, _, I4, rz, q4 hn⟩
end
end DL
set_option Elab.async false
set_option linter.all false
set_option maxRecDepth 100000
set_option maxHeartbeats 1000000
/-! DL35: readings over dicts with nested keys. -/
namespace DL
open PySem L2 Evl PyProof.Rows
variable [Tbs]
/-- a dict with nested keys, its value at k -/
def ctN (c : Ct) (k : D) (Q : List (NestedKey × D) → NestedKey → Prop) : Prop := match c with
  | .dctN kvs => ofS k.nkT (Q kvs)
  | _ => False
theorem ctN.eq {c : Ct} {k : D} {Q : List (NestedKey × D) → NestedKey → Prop} (h : ctN c k Q) : ∃ kvs kk, c = .dctN kvs ∧ k.nkT = some kk ∧ Q kvs kk := by
  cases c with
  | dctN kvs => obtain ⟨kk, h1, h2⟩ := ofS.eq h; exact ⟨kvs, kk, rfl, h1, h2⟩
  | _ => exact h.elim
theorem ctN.mono {c : Ct} {k : D} {Q Q' : List (NestedKey × D) → NestedKey → Prop} (hq : ∀ a b, Q a b → Q' a b) (h : ctN c k Q) : ctN c k Q' := by
  cases c with
  | dctN kvs => exact ofS.mono (fun _ h => hq _ _ h) h
  | _ => exact h
def dN (c k : D) (Q : List (NestedKey × D) → NestedKey → Prop) : Prop := match c with
  | .dictN kvs => ofS k.nkT (Q kvs)
  | _ => False
theorem dN.eq {c k : D} {Q : List (NestedKey × D) → NestedKey → Prop} (h : dN c k Q) : ∃ kvs kk, c = .dictN kvs ∧ k.nkT = some kk ∧ Q kvs kk := by
  cases c with
  | dictN kvs => obtain ⟨kk, h1, h2⟩ := ofS.eq h; exact ⟨kvs, kk, rfl, h1, h2⟩
  | _ => exact h.elim
theorem dN.mono {c k : D} {Q Q' : List (NestedKey × D) → NestedKey → Prop} (hq : ∀ a b, Q a b → Q' a b) (h : dN c k Q) : dN c k Q' := by
  cases c with
  | dictN kvs => exact ofS.mono (fun _ h => hq _ _ h) h
  | _ => exact h
theorem key_at {K : PySem.W.Frag} {F H : Hp} {v : V} {d : D} {k : NestedKey} (e : ExL F H) (r : Rep K F v d) (h : d.nkT = some k) : ∃ b, v = .ref b ∧ KeyV H k (.ref b) ∧ k.depth ≤ 8 ∧ nkNum k = true ∧ Rep K F (.ref b) (nkD k) := by
  obtain ⟨h1, h2, h3⟩ := nkT_data h
  cases d with
  | tuple xs =>
    have r2 := r
    obtain ⟨b, vs, rfl, _, _⟩ := r.tuple_inv2
    rw [← h1] at r2
    exact ⟨b, rfl, keyV_rep e h2 r2, h3, h2, r2⟩
  | _ => cases h
def eGetSN (i : Nat) (dk : DE) : DE := fun ρ X K => isOw (gt ρ i) = true ∧ dk ρ X fun k ρ1 => owC (gt ρ1 i) fun _ c => ctN c k fun kvs kk => ∃ d, dVal kvs kk = some d ∧ K d ρ1
def eGetN (dd dk : DE) : DE := fun ρ X K => dd ρ X fun c ρ1 => dk ρ1 X fun k ρ2 => dN c k fun kvs kk => ∃ d, dVal kvs kk = some d ∧ K d ρ2
def tInSN (neg : Bool) (i : Nat) (dk : DE) : DT := fun ρ X K => dk ρ X fun k ρ1 => owC (gt ρ1 i) fun _ c => ctN c k fun kvs kk => K (if neg then !(dVal kvs kk).isSome else (dVal kvs kk).isSome) ρ1
def tInN (neg : Bool) (dk dd : DE) : DT := fun ρ X K => dk ρ X fun k ρ1 => dd ρ1 X fun c ρ2 => dN c k fun kvs kk => K (if neg then !(dVal kvs kk).isSome else (dVal kvs kk).isSome) ρ2
def isOwN : Sl → Bool
  | .ow _ (.dctN _) => true
  | _ => false
def eSetdN (i : Nat) (dk dv : DE) : DE := fun ρ X K => isOwN (gt ρ i) = true ∧ dk ρ X fun k ρ1 => dv ρ1 X fun y ρ2 => owC (gt ρ2 i) fun b c => ctN c k fun kvs kk => kvs.length ≤ 1000000 ∧ match dVal kvs kk with
  | some d => K d ρ2
  | none => K y (ρ2.set i (.ow b (.dctN (dPut kvs kk y))))
def dgSubN (i : Nat) (dk : DE) : DG := fun y ρ k => isOw (gt ρ i) = true ∧ dk ρ X0 fun j ρ2 => owC (gt ρ2 i) fun b c => ctN c j fun kvs kk => kvs.length ≤ 1000000 ∧ k (ρ2.set i (.ow b (.dctN (dPut kvs kk y))))
section
variable {X : Cx} {W : WX} {a b c e f o : Expr} {da db de dk dd dv : DE} {dt : DT} {dn : NE} {pos p : Pos}
theorem mono_eGetSN {i : Nat} (m : MonoE dk) : MonoE (eGetSN i dk) := ⟨fun hx hk h => ⟨h.1, m.go hx (fun k ρ h => owC.mono (fun b c h => ctN.mono (fun _ _ ⟨d, h1, h2⟩ => ⟨d, h1, hk _ _ h2⟩) h) h) h.2⟩⟩
theorem mono_eGetN (m1 : MonoE dd) (m : MonoE dk) : MonoE (eGetN dd dk) := ⟨fun hx hk h => m1.go hx (fun c ρ h => m.go hx (fun k ρ h => dN.mono (fun _ _ ⟨d, h1, h2⟩ => ⟨d, h1, hk _ _ h2⟩) h) h) h⟩
theorem mono_tInSN {n : Bool} {i : Nat} (m : MonoE dk) : MonoT (tInSN n i dk) := ⟨fun hx hk h => m.go hx (fun k ρ h => owC.mono (fun b c h => ctN.mono (fun _ _ h => hk _ _ h) h) h) h⟩
theorem mono_tInN {n : Bool} (m1 : MonoE dk) (m : MonoE dd) : MonoT (tInN n dk dd) := ⟨fun hx hk h => m1.go hx (fun c ρ h => m.go hx (fun k ρ h => dN.mono (fun _ _ h => hk _ _ h) h) h) h⟩
theorem mono_eSetdN {i : Nat} (m1 : MonoE dk) (m2 : MonoE dv) : MonoE (eSetdN i dk dv) := ⟨fun hx hk h => ⟨h.1, m1.go hx (fun k ρ h => m2.go hx (fun y ρ h => owC.mono (fun b c h => ctN.mono (fun kvs kk h => ⟨h.1, by
  have h2 := h.2
  cases q : dVal kvs kk with
  | some d => rw [q] at h2; exact hk _ _ h2
  | none => rw [q] at h2; exact hk _ _ h2⟩) h) h) h) h.2⟩⟩
theorem nget_of {K : PySem.W.Frag} {F H : Hp} {q : Addr} {ws : NW} {kvs : List (NestedKey × D)} {y : V} {k : D} {kk : NestedKey} (e : ExL F H) (ho : Rd H q (ND q ws)) (hc : NReps K F ws kvs) (ry : Rep K F y k) (h : k.nkT = some kk) : ∃ ov, NGet H q y ov ∧ ov.isSome = (dVal kvs kk).isSome ∧ ∀ d, dVal kvs kk = some d → ∃ v, ov = some v ∧ Rep K F v d := by
  obtain ⟨b, rfl, kv, kd, _, _⟩ := key_at e ry h
  obtain ⟨h1, h2⟩ := hc.val (k := kk)
  refine ⟨valN ws kk, ⟨ws, kk, b, ho, hc.keys e, rfl, kv, kd, rfl⟩, ?_, h2⟩
  cases q : dVal kvs kk with
  | none => rw [h1 q]; rfl
  | some d => obtain ⟨v, e, _⟩ := h2 d q; rw [e]; rfl
theorem pd_getSN {k : Nat} (i : Nat) {x : Str} (hr : Room k X.A) (hb : PD X W b dk) (hs : NoSl b) (hN : X.N[i]? = some x := by rfl) (hv : Vis X.env.scope x := by first | exact Or.inl rfl | exact Or.inr (Or.inl rfl) | exact Or.inr (Or.inr rfl)) (hd : (x == ("__debug__" : Str)) = false := by decide)
    (hcd : (x == ("__classdict__" : Str)) = false := by decide) : PD X W (.Subscript (.Name x p) b pos) (eGetSN i dk) := by
  refine ⟨mono_eGetSN hb.mono, PE.imp (pe_nget (hu9 hr) (pe_var (i := i) hN hv hd hcd) hb.run hs) fun σ H Q ⟨B, F, ρ, S, h⟩ => ?_⟩
  obtain ⟨q0, e0⟩ := S.isOw_ref h.1
  refine ⟨_, e0, liftE.of hb.mono (Ex.refl _) S h.2 fun k ρ1 h v F1 H1 e1 S1 r1 => ?_⟩
  obtain ⟨b, c, es, h⟩ := h.eq
  obtain ⟨kvs, kk, rfl, hk, d, h1, h⟩ := h.eq
  obtain ⟨a, ea, ⟨nf, ng, o, ho, ws, rfl, hc⟩, _⟩ := S1.ow es
  rw [e0] at ea
  have : q0 = a := by simpa using ea
  subst this
  obtain ⟨ov, g, _, r⟩ := nget_of S1.ex (.inl ho) hc r1 hk
  obtain ⟨u, rfl, ru⟩ := r d h1
  exact ⟨q0, u, rfl, g, h u F1 H1 e1 S1 ru⟩
theorem pd_getN {k : Nat} (hr : Room k X.A) (ha : PD X W a dd) (hb : PD X W b dk) (hs : NoSl b) : PD X W (.Subscript a b pos) (eGetN dd dk) := by
  refine ⟨mono_eGetN ha.mono hb.mono, PE.imp (pe_nget (hu9 hr) ha.run hb.run hs) fun σ H Q ⟨B, F, ρ, S, h⟩ => ?_⟩
  refine liftE.of ha.mono (Ex.refl _) S h fun c ρ0 h v0 F0 H0 e0 S0 r0 => liftE.of hb.mono e0 S0 h fun k ρ1 h v F1 H1 e1 S1 r1 => ?_
  obtain ⟨kvs, kk, rfl, hk, d, h1, h⟩ := h.eq
  obtain ⟨q, ws, rfl, hq, hc⟩ := (r0.mono e1).dictN_inv
  obtain ⟨ov, g, _, r⟩ := nget_of S1.ex (S1.ex.rd hq) hc r1 hk
  obtain ⟨u, rfl, ru⟩ := r d h1
  exact ⟨q, u, rfl, g, h u F1 H1 (e0.trans e1) S1 ru⟩
theorem inSN_go {n : Bool} {i : Nat} {σ : L2.St} {H : Hp} {Q : Bool → Hp → Prop} (hb : PD X W b dk) (h : liftT X.K W (tInSN n i dk) σ H Q) : liftE X.K W dk σ H fun y H1 => tVar i σ H1 fun x H2 => ∃ a ov, x = .ref a ∧ NGet H2 a y ov ∧ Q (if n then !ov.isSome else ov.isSome) H2 := by
  obtain ⟨B, F, ρ, S, h⟩ := h
  refine liftE.of hb.mono (Ex.refl _) S h fun k ρ1 h v F1 H1 e1 S1 r1 => ?_
  obtain ⟨b, c, es, h⟩ := h.eq
  obtain ⟨kvs, kk, rfl, hk, h⟩ := h.eq
  obtain ⟨a, ea, ⟨nf, ng, o, ho, ws, rfl, hc⟩, _⟩ := S1.ow es
  obtain ⟨ov, g, hi, r⟩ := nget_of S1.ex (.inl ho) hc r1 hk
  exact ⟨_, ea, a, ov, rfl, g, by rw [hi]; exact h F1 H1 e1 S1⟩
theorem inN_go {n : Bool} {σ : L2.St} {H : Hp} {Q : Bool → Hp → Prop} (ha : PD X W a dd) (hb : PD X W b dk) (h : liftT X.K W (tInN n dk dd) σ H Q) : liftE X.K W dk σ H fun y H1 => liftE X.K W dd σ H1 fun x H2 => ∃ a ov, x = .ref a ∧ NGet H2 a y ov ∧ Q (if n then !ov.isSome else ov.isSome) H2 := by
  obtain ⟨B, F, ρ, S, h⟩ := h
  refine liftE.of hb.mono (Ex.refl _) S h fun k ρ1 h v F1 H1 e1 S1 r1 => liftE.of ha.mono e1 S1 h fun c ρ2 h v2 F2 H2 e2 S2 r2 => ?_
  obtain ⟨kvs, kk, rfl, hk, h⟩ := h.eq
  obtain ⟨q, ws, rfl, hq, hc⟩ := r2.dictN_inv
  obtain ⟨ov, g, hi, r⟩ := nget_of S2.ex (S2.ex.rd hq) hc (r1.mono e2) hk
  exact ⟨q, ov, rfl, g, by rw [hi]; exact h F2 H2 (e1.trans e2) S2⟩
theorem pdt_inSN {k : Nat} (i : Nat) {x : Str} (hr : Room k X.A) (hb : PD X W b dk) (hN : X.N[i]? = some x := by rfl) (hv : Vis X.env.scope x := by first | exact Or.inl rfl | exact Or.inr (Or.inl rfl) | exact Or.inr (Or.inr rfl)) (hd : (x == ("__debug__" : Str)) = false := by decide)
    (hcd : (x == ("__classdict__" : Str)) = false := by decide) (h1 : behindInMarks .In (.Name x p) = false := by first | exact nobehind _ (by decide) (by decide) | rfl) : PDT X W (.Compare b [.In] [.Name x p] pos) (tInSN false i dk) :=
  ⟨mono_tInSN hb.mono, PT.imp (pt_cmp (pc_nin (hu9 hr) hb.run (pe_var (i := i) hN hv hd hcd)) h1) fun σ H Q h => by
    obtain ⟨B, F, ρ, S, q⟩ := inSN_go (n := false) hb h
    refine ⟨B, F, ρ, S, hb.mono.go (fun _ _ h => h) (fun k ρ' h v F' H' e' S' r' => ?_) q⟩
    obtain ⟨x, hx, a, ov, e2, g, q⟩ := h v F' H' e' S' r'
    exact ⟨x, hx, a, ov, e2, g, ⟨_, rfl, q⟩⟩⟩
theorem pdt_notinSN {k : Nat} (i : Nat) {x : Str} (hr : Room k X.A) (hb : PD X W b dk) (hN : X.N[i]? = some x := by rfl) (hv : Vis X.env.scope x := by first | exact Or.inl rfl | exact Or.inr (Or.inl rfl) | exact Or.inr (Or.inr rfl)) (hd : (x == ("__debug__" : Str)) = false := by decide)
    (hcd : (x == ("__classdict__" : Str)) = false := by decide) (h1 : behindInMarks .NotIn (.Name x p) = false := by first | exact nobehind _ (by decide) (by decide) | rfl) : PDT X W (.Compare b [.NotIn] [.Name x p] pos) (tInSN true i dk) :=
  ⟨mono_tInSN hb.mono, PT.imp (pt_cmp (pc_nnotin (hu9 hr) hb.run (pe_var (i := i) hN hv hd hcd)) h1) fun σ H Q h => by
    obtain ⟨B, F, ρ, S, q⟩ := inSN_go (n := true) hb h
    refine ⟨B, F, ρ, S, hb.mono.go (fun _ _ h => h) (fun k ρ' h v F' H' e' S' r' => ?_) q⟩
    obtain ⟨x, hx, a, ov, e2, g, q⟩ := h v F' H' e' S' r'
    exact ⟨x, hx, a, ov, e2, g, ⟨_, rfl, q⟩⟩⟩
theorem pdt_inN {k : Nat} (hr : Room k X.A) (hb : PD X W b dk) (ha : PD X W a dd) (h1 : behindInMarks .In a = false := by first | exact nobehind _ (by decide) (by decide) | rfl) : PDT X W (.Compare b [.In] [a] pos) (tInN false dk dd) :=
  ⟨mono_tInN hb.mono ha.mono, PT.imp (pt_cmp (pc_nin (hu9 hr) hb.run ha.run) h1) fun σ H Q h => by
    obtain ⟨B, F, ρ, S, q⟩ := inN_go (n := false) ha hb h
    refine ⟨B, F, ρ, S, hb.mono.go (fun _ _ h => h) (fun k ρ' h v F' H' e' S' r' => ?_) q⟩
    obtain ⟨B2, F2, ρ2, S2, q2⟩ := h v F' H' e' S' r'
    refine ⟨B2, F2, ρ2, S2, ha.mono.go (fun _ _ h => h) (fun k ρ' h v F' H' e' S' r' => ?_) q2⟩
    obtain ⟨a, ov, e2, g, q⟩ := h v F' H' e' S' r'
    exact ⟨a, ov, e2, g, ⟨_, rfl, q⟩⟩⟩
theorem pdt_notinN {k : Nat} (hr : Room k X.A) (hb : PD X W b dk) (ha : PD X W a dd) (h1 : behindInMarks .NotIn a = false := by first | exact nobehind _ (by decide) (by decide) | rfl) : PDT X W (.Compare b [.NotIn] [a] pos) (tInN true dk dd) :=
  ⟨mono_tInN hb.mono ha.mono, PT.imp (pt_cmp (pc_nnotin (hu9 hr) hb.run ha.run) h1) fun σ H Q h => by
    obtain ⟨B, F, ρ, S, q⟩ := inN_go (n := true) ha hb h
    refine ⟨B, F, ρ, S, hb.mono.go (fun _ _ h => h) (fun k ρ' h v F' H' e' S' r' => ?_) q⟩
    obtain ⟨B2, F2, ρ2, S2, q2⟩ := h v F' H' e' S' r'
    refine ⟨B2, F2, ρ2, S2, ha.mono.go (fun _ _ h => h) (fun k ρ' h v F' H' e' S' r' => ?_) q2⟩
    obtain ⟨a, ov, e2, g, q⟩ := h v F' H' e' S' r'
    exact ⟨a, ov, e2, g, ⟨_, rfl, q⟩⟩⟩
theorem pd_setdN {k : Nat} (i : Nat) {x : Str} {apos : Pos} (hr : Room k X.A) (h1 : PD X W e dk) (h2 : PD X W f dv) (m : M2 X (.Name x p) "setdefault" apos e f pos) (hN : X.N[i]? = some x := by rfl) (hv : Vis X.env.scope x := by first | exact Or.inl rfl | exact Or.inr (Or.inl rfl) | exact Or.inr (Or.inr rfl)) (hd : (x == ("__debug__" : Str)) = false := by decide)
    (hcd : (x == ("__classdict__" : Str)) = false := by decide) : PD X W (.Call (.Attribute (.Name x p) "setdefault" apos) [e, f] [] pos) (eSetdN i dk dv) := by
  refine ⟨mono_eSetdN h1.mono h2.mono, PE.imp (pe_nsetd (hu9 hr) (pe_var (i := i) hN hv hd hcd) h1.run h2.run m) fun σ H Q ⟨B, F, ρ, S, h⟩ => ?_⟩
  obtain ⟨b0, kv0, es0⟩ : ∃ b kvs, ρ.getD i .un = .ow b (.dctN kvs) := by
    have := h.1
    unfold isOwN at this
    split at this
    · rename_i b kvs hs; exact ⟨b, kvs, hs⟩
    · cases this
  obtain ⟨q0, e0, ⟨_, _, o0, ho0, ws0, rfl, hc0⟩, _⟩ := S.ow es0
  refine ⟨_, e0, q0, rfl, ⟨ws0, ho0, hc0.keys S.ex⟩, ?_⟩
  refine liftE.of h1.mono (Ex.refl _) S h.2 fun k ρ1 h v F1 H1 e1 S1 r1 => liftE.of h2.mono e1 S1 h fun y ρ2 h u F2 H2 e2 S2 r2 => ?_
  obtain ⟨b, c, es, h⟩ := h.eq
  obtain ⟨kvs, kk, rfl, hk, hz, h⟩ := h.eq
  obtain ⟨a, ea, ⟨nf, ng, o, ho, ws, rfl, hc⟩, _⟩ := S2.ow es
  rw [e0] at ea
  have : q0 = a := by simpa using ea
  subst this
  obtain ⟨b2, rfl, kv, kd, kn, rk⟩ := key_at S2.ex (r1.mono e2) hk
  obtain ⟨z1, z2⟩ := hc.val (k := kk)
  refine ⟨ws, kk, b2, ho, hc.keys S2.ex, rfl, kv, kd, by rw [hc.length, sizeLine_eq]; exact Nat.lt_of_le_of_lt hz (by decide), fun v' hv' => ?_, fun hn => ?_⟩
  · cases q : dVal kvs kk with
    | none => rw [z1 q] at hv'; cases hv'
    | some d =>
      rw [q] at h
      obtain ⟨v2, e3, r3⟩ := z2 d q
      rw [hv'] at e3
      cases e3
      exact h _ F2 H2 (e1.trans e2) S2 r3
  · cases q : dVal kvs kk with
    | some d => obtain ⟨v2, e3, r3⟩ := z2 d q; rw [hn] at e3; cases e3
    | none =>
      rw [q] at h
      exact h _ F2 _ (e1.trans e2) (S2.write es e0 ⟨_, rfl, hc.put kd kn rk r2⟩) r2
theorem pdg_subN {k : Nat} (i : Nat) {x : Str} (hr : Room k X.A) (hi : PD X W0 e de) (hN : X.N[i]? = some x := by rfl) (hv : Vis X.env.scope x := by first | exact Or.inl rfl | exact Or.inr (Or.inl rfl) | exact Or.inr (Or.inr rfl)) (hd : (x == ("__debug__" : Str)) = false := by decide)
    (hcd : (x == ("__classdict__" : Str)) = false := by decide) (ha : ∀ v, assign (.Subscript (.Name x p) e pos) X.env v = (do
      let ov ← holding [v] (eval (.Name x p) X.env)
      let iv ← holding [v, ov] (eval e X.env)
      standAt pos
      holding [v, ov, iv] (setItem ov iv v)
      release [v, ov, iv] []) := by intro _; rfl) :
    PDG X (.Subscript (.Name x p) e pos) (gSub (tVar i) (liftE X.K W0 de) rPutN) (dgSubN i de) [] := by
  refine ⟨⟨fun hk h => ⟨h.1, hi.mono.go (fun _ _ h => h) (fun j ρ h => owC.mono (fun b c h => ctN.mono (fun _ _ h => ⟨h.1, hk _ h.2⟩) h) h) h.2⟩⟩, pg_sub (pe_var (i := i) hN hv hd hcd) hi.run (set_putN (hu9 hr)) ha, fun {B F ρ σ H v d k Q} S r h hQ => ?_⟩
  obtain ⟨h0, h⟩ := h
  obtain ⟨q0, e0⟩ := S.isOw_ref h0
  refine ⟨_, e0, liftE.of hi.mono (Ex.refl _) S (hi.mono.go (fun _ _ h => h.elim) (fun _ _ h => h) h) fun j ρ2 h y F1 H1 e1 S1 r1 => ?_⟩
  obtain ⟨b, c, es, h⟩ := h.eq
  obtain ⟨kvs, kk, rfl, hk, hz, h⟩ := h.eq
  obtain ⟨a, ea, ⟨nf, ng, o, ho, ws, rfl, hc⟩, _⟩ := S1.ow es
  rw [e0] at ea
  have : q0 = a := by simpa using ea
  subst this
  obtain ⟨b2, rfl, kv, kd, kn, rk⟩ := key_at S1.ex r1 hk
  exact ⟨q0, _, rfl, ⟨ws, kk, b2, ho, hc.keys S1.ex, rfl, kv, kd, by rw [hc.length, sizeLine_eq]; exact Nat.lt_of_le_of_lt hz (by decide), rfl⟩, hQ _ h F1 σ _ e1 rfl (fun _ _ => rfl) (S1.write es e0 ⟨_, rfl, hc.put kd kn rk (r.mono e1)⟩)⟩
end
/-! ### steps -/
section
variable {ρ ρ1 : Env} {X : XP} {K : D → Env → Prop} {KB : Bool → Env → Prop} {KE : Env → Prop} {dk dv da : DE} {i : Nat} {d e : D} {b : Bool} {kvs : List (NestedKey × D)} {Q : List (NestedKey × D) → NestedKey → Prop} {kk : NestedKey}
theorem w_inSN (h : dk ρ X fun k ρ1 => owC (gt ρ1 i) fun _ c => ctN c k fun kvs kk => KB (dVal kvs kk).isSome ρ1) : tInSN false i dk ρ X KB := h
theorem w_notinSN (h : dk ρ X fun k ρ1 => owC (gt ρ1 i) fun _ c => ctN c k fun kvs kk => KB (!(dVal kvs kk).isSome) ρ1) : tInSN true i dk ρ X KB := h
theorem w_inN (h : dk ρ X fun k ρ1 => da ρ1 X fun c ρ2 => dN c k fun kvs kk => KB (dVal kvs kk).isSome ρ2) : tInN false dk da ρ X KB := h
theorem w_notinN (h : dk ρ X fun k ρ1 => da ρ1 X fun c ρ2 => dN c k fun kvs kk => KB (!(dVal kvs kk).isSome) ρ2) : tInN true dk da ρ X KB := h
theorem w_getSN (g : isOw (gt ρ i) = true) (h : dk ρ X fun k ρ1 => owC (gt ρ1 i) fun _ c => ctN c k fun kvs kk => ∃ d, dVal kvs kk = some d ∧ K d ρ1) : eGetSN i dk ρ X K := ⟨g, h⟩
theorem w_getN (h : da ρ X fun c ρ1 => dk ρ1 X fun k ρ2 => dN c k fun kvs kk => ∃ d, dVal kvs kk = some d ∧ K d ρ2) : eGetN da dk ρ X K := h
theorem w_setdN (g : isOwN (gt ρ i) = true) (h : dk ρ X fun k ρ1 => dv ρ1 X fun y ρ2 => owC (gt ρ2 i) fun b c => ctN c k fun kvs kk => kvs.length ≤ 1000000 ∧ match dVal kvs kk with
  | some d => K d ρ2
  | none => K y (ρ2.set i (.ow b (.dctN (dPut kvs kk y))))) : eSetdN i dk dv ρ X K := ⟨g, h⟩
theorem w_gsubN (g : isOw (gt ρ i) = true) (h : dk ρ X0 fun j ρ2 => owC (gt ρ2 i) fun b c => ctN c j fun kvs kk => kvs.length ≤ 1000000 ∧ KE (ρ2.set i (.ow b (.dctN (dPut kvs kk d))))) : dgSubN i dk d ρ KE := ⟨g, h⟩
theorem w_ctN (g : d.nkT = some kk) (h : Q kvs kk) : ctN (.dctN kvs) d Q := w_ofS g h
theorem w_dN (g : d.nkT = some kk) (h : Q kvs kk) : dN (.dictN kvs) d Q := w_ofS g h
end
end DL
set_option Elab.async false
set_option linter.all false
set_option maxRecDepth 100000
set_option maxHeartbeats 2000000
/-! DX1: several except clauses, each with its name. -/
namespace DL
open PySem L2 PySem.Spec PyProof.Rows
/-- a clause: its class, its name's slot, what its suite does -/
abbrev Cl := Value × Nat × (Addr → Value → Option Addr → TS)
/-- the ends of a suite: the name goes -/
def offE (i : Nat) (D : Ends) : Ends := { nx := fun σ H => D.nx (σ.set i none) H, rt := D.rt, bk := fun σ H => D.bk (σ.set i none) H, ct := fun σ H => D.ct (σ.set i none) H }
def wCls (K : PySem.W.Frag) (Wo : WX) (D : Ends) : List Cl → WX
  | [] => Wo
  | (c, i, ts) :: r => fun cls d σ H => ∃ b, PySem.W.exmOne K cls c = some b ∧ (b = true → ∀ a, H a = none → ts a cls d (offE i D) (σ.set i (some (.ref a))) H) ∧ (b = false → wCls K Wo D r cls d σ H)
inductive ClsOk (X : Cx) : List ExceptHandler → List Cl → Prop
  | nil : ClsOk X [] []
  | cons {x n : Str} {c : Value} {i : Nat} {ts : Addr → Value → Option Addr → TS} {b0 : Stmt} {su : List Stmt} {p1 p2 : Pos} {hds : List ExceptHandler} {l : List Cl} (hc : Names X x c) (hi : X.N[i]? = some n) (hl : X.env.kindOf n = some .local)
      (hsu : ∀ (a : Addr) (oe : Obj) (cls : Value) (d : Option Addr) (pn : List (Addr × Obj)), Zc cls d oe → (∃ vs, oe.data = .fields vs) → PSs (X.suite a ((a, oe) :: pn)) (b0 :: su) (ts a cls d)) (r : ClsOk X hds l) :
      ClsOk X (.ExceptHandler (some (.Name x p1)) (some n) (b0 :: su) p2 :: hds) ((c, i, ts) :: l)
section
variable {X : Cx} {body : List Stmt} {h0 : ExceptHandler} {hds : List ExceptHandler} {l : List Cl} {pos : Pos} {tb : WX → TS} {Wo : WX}
theorem ps_tryAs (stk : X.stack = X.env :: X.outer) (frm : X.env.frame = some X.env.locals) (nN : X.N.Nodup) (tks : Takes X Wo)
    (hbd : ∀ (W : WX) (pn : List (Addr × Obj)) (xe : Value → Shared → Prop), Takes (X.tr pn xe) W → PassesOwn (model X.prog X.w) X.A X.env xe → PSs (X.tr pn xe) body (tb W))
    (hcl : ClsOk X (h0 :: hds) l) : PS X (.Try body (h0 :: hds) [] [] pos) (fun D σ H => tb (wCls X.K Wo D l) D σ H) := by
  refine ⟨fun p0 s σ H D I h => ?_⟩
  have okX := I.ok
  have frA : X.A.frames = some (X.env :: X.outer) := by rw [okX.frames, stk]
  refine wpAny_Try_except (wpAny_mono ((hbd (wCls X.K Wo D l) (X.pn ++ p0) (fun e s1 => wpAny (model X.prog X.w) X.A (noteFrame e X.env) (fun _ s2 => wpAny (model X.prog X.w) X.A (setFlight e none) (fun _ s3 => wpAny (model X.prog X.w) X.A (handleBy e X.env (h0 :: hds)) (SP X p0 D) X.xe s3) X.xe s2) X.xe s1)
    (fun u s' xc => ?_) PassesOwn.looking).run [] s σ H D (I.toTry _) h) (fun f s1 fq => ?_) (fun e s1 he => he))
  · obtain ⟨a, B, sI, p1, σ', H', cls, d, rfl, Jt, nb0, u1, sk, na0, os, ag0, w⟩ := xc
    have Jv : Inv X p0 σ' H' sI := Jt.ofTry okX
    have sk2 : Sky B (X.env :: X.outer) a (Zc cls d) X.env.locals s'.heap := by rw [← stk]; exact sk
    show wpAny (model X.prog X.w) X.A (noteFrame (Value.ref a) X.env) _ _ _
    refine Sky.land Zc.steady frA frm sk2 fun k3 f3 u3 => ?_
    have K3 : Inv X p0 σ' H' { s' with heap := k3 } := Jv.landed nb0 f3.1 (u1.trans u3) os ag0
    obtain ⟨o3, w3, g3, z3, d3⟩ := f3.there
    have nfs : a ∉ frs (X.env :: X.outer) := fun hm => by
      obtain ⟨_, o', e', hnf⟩ := f3.2.2.1.mem hm
      rw [g3] at e'
      cases e'
      exact hnf _ d3
    have nl0 : a ≠ X.env.locals := fun z => nfs (List.mem_filterMap.mpr ⟨X.env, .head _, by rw [frm, z]⟩)
    have nf1 : a ∉ X.fs := fun hm => by
      obtain ⟨e, he, q⟩ := List.mem_filterMap.mp hm
      exact nfs (List.mem_filterMap.mpr ⟨e, .tail _ he, q⟩)
    have Sx := K3.suite g3 d3 na0 nl0 nf1
    have go : ∀ {hs' : List ExceptHandler} {l' : List Cl}, ClsOk X hs' l' → wCls X.K Wo D l' cls d σ' H' → wpAny (model X.prog X.w) X.A (handleBy (.ref a) X.env hs') (SP X p0 D) X.xe { s' with heap := k3 } := by
      intro hs' l' hk
      induction hk with
      | nil =>
        intro w
        refine wpAny_handleBy_nil ?_
        obtain ⟨_, _, _, oe, vs, T, oT, ts', he, hz, hd, h1, hr⟩ := id f3
        unfold PySem.passOn
        refine wpAny_bind (wpAny_field he hd h1 ?_)
        rw [if_neg (show ¬ ((Value.ref T == Value.none) = true) by simp)]
        have fin : wpAny (model X.prog X.w) X.A (setFlight (.ref a) X.env.frame) (fun _ s4 => wpAny (model X.prog X.w) X.A (throw (.ref a) : Sem Flow) (SP X p0 D) X.xe s4) X.xe { s' with heap := k3 } := by
          rw [frm]
          exact HandSPX.setFlight_upZ f3 fun k4 hk4 u4 => wpAny_throw (tks _ _ ⟨a, B, sI, p0, σ', H', cls, d, rfl, Jv, nb0, (u1.trans u3).trans u4, .inr (.inr (by rw [stk]; exact hk4)), na0, os, ag0, w⟩)
        first
          | exact wpAny_bind (wpAny_pure (wpAny_bind fin))
          | exact wpAny_bind fin
      | @cons x n c i ts b0 su q1 q2 hds2 l2 hc hi hl hsu r ih =>
        intro w
        obtain ⟨b, hb1, yes, no⟩ := w
        refine wpAny_handleBy_cons (codeAny_handlers_test ?_) (by intro q; cases q)
        have Lt : PySem.W.Looks (model X.prog X.w) k3 (typeOf (.ref a)) cls := fun A Q E s k q => wpAny_typeOf_ref (k _ _ g3) (by rw [z3.1]; exact q)
        have Lm := PySem.W.exm_one (M := model X.prog X.w) K3.kIn Lt hb1
        have tst : ∀ {Q : Value → Shared → Prop} {E : Value → Shared → Prop}, Q c { s' with heap := k3 } → wpAny (model X.prog X.w) (X.A.mark (some (.ref a))) (eval (.Name x q1) X.env) Q E { s' with heap := k3 } := fun {Q E} q => by
          obtain ⟨hg, hdbg, hm | ⟨hm, hv, hnn⟩⟩ := hc
          · exact ld_glob (X := X.suite a ((a, o3) :: (X.pn ++ p0))) Sx hg hm q hdbg
          · exact ld_blt (X := X.suite a ((a, o3) :: (X.pn ++ p0))) Sx hg hm hv q hnn hdbg
        refine tst (Lm.here ?_)
        cases b with
        | true =>
          refine codeAny_handlers_suite_as (HandSPX.lands_againZ f3 fun k4 f4 u4 => ?_)
          have K4 : Inv X p0 σ' H' { s' with heap := k4 } := Jv.landed nb0 f4.1 ((u1.trans u3).trans u4) os ag0
          obtain ⟨o4, w4, g4, z4, d4⟩ := f4.there
          refine store_ok (X := X.suite a ((a, o4) :: (X.pn ++ p0))) (v := .ref a) (K4.suite g4 d4 na0 nl0 nf1) nN hi (.inl hl) rfl (fun s5 S5 => ?_) (.inr hl)
          refine wpAny_mono ((hsu a o4 cls d (X.pn ++ p0) z4 ⟨_, d4⟩).run [] s5 _ H' _ S5 (yes rfl a na0)) (fun f s6 fq => ?_) (fun _ _ z => False.elim z)
          have off : ∀ {σ6 : L2.St} {H6 : Hp} {Q : Shared → Prop}, Inv (X.suite a ((a, o4) :: (X.pn ++ p0))) [] σ6 H6 s6 → (∀ s7, Inv X p0 (σ6.set i none) H6 s7 → Q s7) → wpAny (model X.prog X.w) X.A (do bindName X.env n .none; unbindBehindTheSuite X.env n q2) (fun _ s7 => Q s7) X.xe s6 :=
            fun {σ6 H6 Q} S6 hq => gone_ok (S6.unsuite okX) nN hi hl hq
          cases f with
          | ret u => obtain ⟨v6, σ6, H6, S6, r6, q6⟩ := fq; exact off S6 fun s7 J7 => ⟨_, _, _, J7, r6, q6⟩
          | next => obtain ⟨σ6, H6, S6, q6⟩ := fq; exact off S6 fun s7 J7 => ⟨_, _, J7, q6⟩
          | brk => obtain ⟨σ6, H6, S6, q6⟩ := fq; exact off S6 fun s7 J7 => ⟨_, _, J7, q6⟩
          | cont => obtain ⟨σ6, H6, S6, q6⟩ := fq; exact off S6 fun s7 J7 => ⟨_, _, J7, q6⟩
        | false =>
          show wpAny _ X.A (handleBy (Value.ref a) X.env hds2) _ _ _
          exact ih (no rfl)
    exact go hcl w
  · cases f with
    | ret u => obtain ⟨v, σ', H', J', r, q⟩ := fq; exact ⟨v, σ', H', J'.ofTry okX, r, q⟩
    | next => obtain ⟨σ', H', J', q⟩ := fq; exact wpAny_execs_nil ⟨σ', H', J'.ofTry okX, q⟩
    | brk => obtain ⟨σ', H', J', q⟩ := fq; exact ⟨σ', H', J'.ofTry okX, q⟩
    | cont => obtain ⟨σ', H', J', q⟩ := fq; exact ⟨σ', H', J'.ofTry okX, q⟩
end
end DL
set_option Elab.async false
set_option linter.all false
set_option maxRecDepth 100000
set_option maxHeartbeats 4000000
/-! DX2: own exceptions over a built-in base, whose __init__ says super().__init__(text) and keeps one field. -/
namespace DL
open PySem L2 PySem.Spec PyProof.Rows
/-- a built-in base: its word, its maker, its __init__, its mro -/
structure XBase (B nid iid : String) (tl : List Value) : Prop where
  nw : ∃ (Bn ib : String) (l : List Value), ExcBaseFacts Bn nid ib l ∧ tl.contains (.type Bn) = true
  hB : tl.contains (.type B) = true
  ob : tl.contains (.type "object") = true
  noA : tl.contains (.type "AttributeError") = false
  noN : tl.contains (.type "NameError") = false
  pass : ∀ self, refuseLoop self "__setattr__" tl = pure ()
  ient : entryFor table iid = some Builtin.«BaseException.__init__»
  ikind : builtinKind iid = some .slot
  irow : Manifest.signature? iid = some ⟨.positional, "*", B, .self, [⟨"args", .varPos, false⟩]⟩
  star : (B != "*") = true
  ipl : plainId iid = true
  kx : PySem.W.KxsFacts B iid
abbrev keTail : List Value := ["KeyError", "LookupError", "Exception", "BaseException", "object"].map Value.type
abbrev vaTail : List Value := ["ValueError", "Exception", "BaseException", "object"].map Value.type
theorem xb_Value : XBase "ValueError" "ValueError.__new__" "ValueError.__init__" vaTail where
  nw := ⟨_, _, _, F.excBase_ValueError, by decide +kernel⟩
  hB := by decide +kernel
  ob := by decide +kernel
  noA := by decide +kernel
  noN := by decide +kernel
  pass := F.store_ValueError.passes
  ient := F.excBase_ValueError.initEntry
  ikind := F.excBase_ValueError.initKind
  irow := F.excBase_ValueError.initRow
  star := by decide +kernel
  ipl := by decide +kernel
  kx := PySem.W.kxs_ValueError
theorem kx_Key : PySem.W.KxsFacts "KeyError" "KeyError.__init__" := ⟨by show builtinType _ = _; rw [builtinType_eq_fast]; kernel_rfl, by first | kernel_rfl | rfl⟩
theorem xb_Key : XBase "KeyError" "LookupError.__new__" "KeyError.__init__" keTail where
  nw := ⟨_, _, _, F.excBase_LookupError, by decide +kernel⟩
  hB := by decide +kernel
  ob := by decide +kernel
  noA := by decide +kernel
  noN := by decide +kernel
  pass := fun self => by kernel_rfl
  ient := entryFor_alias (id' := "BaseException.__init__") (by rw [fastTable_eq_tree]; kernel_rfl) (by first | rfl | decide +kernel) (by decide +kernel) (by rw [fastTable_eq_tree]; kernel_rfl)
  ikind := by kernel_rfl
  irow := by kernel_rfl
  star := by decide +kernel
  ipl := by decide +kernel
  kx := kx_Key
theorem refs_contains (tl : List Value) (X : String) : ∀ cs : List Addr, (cs.map Value.ref ++ tl).contains (.type X) = tl.contains (.type X)
  | [] => rfl
  | c :: cs => by
    rw [List.map_cons, List.cons_append, List.contains_cons, refs_contains tl X cs]
    rfl
theorem refs_pass {tl : List Value} (self : Value) (h : refuseLoop self "__setattr__" tl = pure ()) : ∀ cs : List Addr, refuseLoop self "__setattr__" (cs.map Value.ref ++ tl) = pure ()
  | [] => h
  | c :: cs => by
    rw [List.map_cons, List.cons_append, refuseLoop_ref]
    exact refs_pass self h cs

section
variable {M : Model} {A : Around} {E : Value → Shared → Prop} {h : Heap} {g : Array GenState} {d : Drawn} {t : Nat} {os : OsState} {prog : Program} {w : World} {R : Result → Shared → Prop}
variable {nm q : Str} {C N : Addr} {bs bm ib : List Value} {hdct : Bool} {sn : List Str} {sub : List Value} {ab : Bool} {col : Option Bool} {dd : Option Addr} {k0 k1 k2 k3 k5 : Option Value} {Bn nid inn B iid : String} {rest : List Value}
/-- what is asked of the class's bases at the making -/
structure Bms (Bn : String) (bm : List Value) : Prop where
  b : bm.contains (.type Bn) = true
  a : bm.contains (.type "AttributeError") = false
  n : bm.contains (.type "NameError") = false
theorem Bms.at (m : Bms Bn bm) : (Value.ref C :: bm).contains (.type Bn) = true ∧ (Value.ref C :: bm).contains (.type "AttributeError") = false ∧ (Value.ref C :: bm).contains (.type "NameError") = false :=
  ⟨by rw [List.contains_cons, m.b, Bool.or_true], by rw [List.contains_cons, m.a]; rfl, by rw [List.contains_cons, m.n]; rfl⟩
theorem chkN (F : ExcBaseFacts Bn nid inn ib) (m : Bms Bn bm) {Q : Unit → Shared → Prop} (hC : h.get? C = some (excClassObj nm q C N bs bm hdct sn sub ab col dd k0 k1 k2 k3 k5 nid)) (hq : Q () ⟨h, g, d, t, os⟩) :
    wpAny M A (checkBuiltinCall nid ⟨.ref C :: rest, []⟩) Q E ⟨h, g, d, t, os⟩ := by
  have c1 := (m.at (C := C)).1
  have c2 := F.noStar
  simp only [checkBuiltinCall, F.newKind, F.newSplit, F.newRow]
  repeat (first | (refine wpAny_isSubtype_exc hC ?_; rw [c1]) | refine wpAny_loadPart_at hC ?_ | refine wpAny_madeBy_exc hC ?_ | refine wpAny_staticBase_exc hC ?_ | simp only [bne_self_eq_false, Bool.false_eq_true, if_false] | wp_step)
  exact hq
theorem newN (F : ExcBaseFacts Bn nid inn ib) (m : Bms Bn bm) (hC : h.get? C = some (excClassObj nm q C N bs bm hdct sn sub ab col dd k0 k1 k2 k3 k5 nid))
    (hq : R (.ok (.ret (.ref (h.objs.size + 1)))) ⟨(h.push (PySem.W.kdv_tup rest)).push (PySem.HandSPX.excO C h.objs.size), g, d, t, os⟩) (hl : rest.length ≤ sizeLine) : codeAny (model prog w) A (.builtin nid ⟨.ref C :: rest, []⟩) R ⟨h, g, d, t, os⟩ := by
  obtain ⟨c1, c2, c3⟩ := m.at (C := C)
  have c0 := F.ends
  refine codeAny_builtinAt F.entry ?_
  unfold Builtin.«BaseException.__new__»
  refine PySem.wpAt_bind ?_
  show PySem.wpAt _ _ _ (stack >>= _) _ _ _
  refine PySem.wpAt_bind (PySem.wpAt_stack fun p below => PySem.wpAt_of_wpAny ?_)
  wp_walk
  refine PySem.wpAt_of_wpAny ?_
  rw [F.owner]
  repeat (first | (with_reducible refine wpAny_isSubtype_exc hC ?_; first | rw [c1] | rw [c2] | rw [c3]) | with_reducible refine wpAny_loadPart_at hC ?_ | with_reducible refine wpAny_madeHere_exc F.canon hC ?_ | wp_step)
  show R _ _
  rw [Heap.size_push]
  exact hq
theorem tcallN (F : ExcBaseFacts Bn nid inn ib) (m : Bms Bn bm) {fI : Addr} {P : Fin → Shared → Prop} (hC : h.get? C = some (excClassObj nm q C N bs bm hdct sn sub ab col dd k0 k1 k2 k3 k5 nid))
    (hi : PySem.W.Looks (model prog w) h (typeLookup (.ref C) "__init__") (some (.ref fI))) (hb : ∀ self, PySem.W.Looks (model prog w) h (bindSpecial (.ref fI) self) (.ref fI, [self])) (hl : rest.length ≤ sizeLine)
    (hq : codeAny (model prog w) A (.call (.ref fI) ⟨.ref (h.objs.size + 1) :: rest, []⟩) (fun r s' => match r with | .ok (.ret v) => v = .none ∧ P (.done (.ret (.ref (h.objs.size + 1)))) s' | .ok _ => False | .error e => E e s')
      ⟨(h.push (PySem.W.kdv_tup rest)).push (PySem.HandSPX.excO C h.objs.size), g, d, t, os⟩) :
    wpAny (model prog w) A (Builtin.«type.__call__» ⟨.ref C :: rest, []⟩) P E ⟨h, g, d, t, os⟩ := by
  have k : ∀ b o, h.get? b = some o → ((h.push (PySem.W.kdv_tup rest)).push (PySem.HandSPX.excO C h.objs.size)).get? b = some o := fun b o e => Heap.get?_push_of_some _ (Heap.get?_push_of_some _ e)
  have hC1 := k _ _ hC
  have hx : ((h.push (PySem.W.kdv_tup rest)).push (PySem.HandSPX.excO C h.objs.size)).get? (h.objs.size + 1) = some (PySem.HandSPX.excO C h.objs.size) := by heap_get
  have hCC : (Value.ref C :: bm).contains (.ref C) = true := by simp
  repeat (first | with_reducible refine wpAny_madeBy_exc hC ?_ | with_reducible refine wpAny_loadPart_at hC ?_ | wp_step)
  refine codeAny_call_builtin_code (Code.quiet_builtin _ F.quiet) (chkN F m hC (newN F m hC ?_ hl))
  show wpAny _ _ _ _ _ _
  unfold isInstance
  repeat (first | (with_reducible refine wpAny_isSubtype_exc hC1 ?_; rw [hCC]) | with_reducible refine wpAny_loadPart_at hx ?_ | wp_step)
  show wpAny _ _ (typeLookup (.ref C) _) _ _ _
  refine (hi.keeps k).at (wpAny_holding (wpAny_bind (((hb (.ref (h.objs.size + 1))).keeps k).at (wpAny_bind (wpAny_call (codeAny_mono hq fun r s' z => ?_))))))
  rcases r with e | (v | _ | _ | _) <;> first | exact z | exact z.elim | skip
  obtain ⟨rfl, z⟩ := z
  first
    | exact wpAny_pure (wpAny_pure z)
    | (wp_walk; exact z)
theorem callN (F : ExcBaseFacts Bn nid inn ib) (m : Bms Bn bm) {fI : Addr} (hC : h.get? C = some (excClassObj nm q C N bs bm hdct sn sub ab col dd k0 k1 k2 k3 k5 nid))
    (hi : PySem.W.Looks (model prog w) h (typeLookup (.ref C) "__init__") (some (.ref fI))) (hb : ∀ self, PySem.W.Looks (model prog w) h (bindSpecial (.ref fI) self) (.ref fI, [self])) (hl : rest.length ≤ sizeLine)
    (hq : codeAny (model prog w) (A.under (.builtin "type.__call__" ⟨.ref C :: rest, []⟩)) (.call (.ref fI) ⟨.ref (h.objs.size + 1) :: rest, []⟩) (PySem.W.InitBack (h.objs.size + 1) R)
      ⟨(h.push (PySem.W.kdv_tup rest)).push (PySem.HandSPX.excO C h.objs.size), g, d, t, os⟩) :
    codeAny (model prog w) A (.call (.ref C) ⟨rest, []⟩) R ⟨h, g, d, t, os⟩ := by
  have f1 := tc_lookup
  have f2 := tc_bind (.ref C)
  have hTy : (⟨h, g, d, t, os⟩ : Shared).TypeIs (.ref C) "type" := ⟨_, hC, rfl⟩
  refine codeAny_of_tree ?_
  show wpAny _ _ (callAny (.ref C) _) _ _ _
  repeat (any_goals (first | assumption | with_reducible refine wpAny_loadPart_at hC ?_ | wp_step))
  refine ⟨rfl, ?_⟩
  refine codeAny_call_builtin_at (Code.quiet_builtin _ (by decide +kernel)) entry_typeCall (wpAny_check_type_call_sub hC (tcallN F m hC hi hb hl ?_))
  refine codeAny_mono hq fun r s' z => ?_
  rcases r with e | (v | _ | _ | _) <;> exact z
end
end DL
set_option Elab.async false
set_option linter.all false
set_option maxRecDepth 100000
set_option maxHeartbeats 4000000
/-! DX3: self.f = y on such an exception; its __init__ bound and called. -/
namespace DL
open PySem L2 PySem.Spec PyProof.Rows
/-- what the written part says of an own class over a base -/
structure ExcK (K : PySem.W.Frag) (C : Addr) (B nid : String) (tl : List Value) : Prop where
  cls : ∃ nm q N bs cs sn sub ab col dd k0 k1 k2 k3 k5, K.lookup C = some (excClassObj nm q C N bs (List.map Value.ref cs ++ tl) true sn sub ab col dd k0 k1 k2 k3 k5 nid)
  sa : PySem.W.findIn K (.ref C) "__setattr__" = some (some (.builtin "object.__setattr__"))
  sB : PySem.W.subIn K (.ref C) (.type B) = some true
  exC : PySem.W.subIn K (.ref C) (.type "BaseException") = some true
  tyC : PySem.W.typeIn K (.ref C) = some (.type "type")
  kC : PySem.W.keepIn K (.ref C) = true
section
open Builtin Builtin.ObjectAttr PySem.W PySem.HandSPX
variable {prog : Program} {w : World} {A : Around} {E : Value → Shared → Prop} {R : Result → Shared → Prop} {hp : Heap} {g : Array GenState} {d : Drawn} {t : Nat} {os : OsState}
theorem osaX {K : Frag} {name : Str} {tk : Tok} {v : Value} {x C : Addr} {fv : Array Value} {cd : ClassData} (X : K.In hp) (hx : hp.get? x = some { cls := .ref C, data := .fields fv }) (hcd : clsIn K C = some cd)
    (hps : refuseLoop (.ref x) "__setattr__" cd.mro = pure ()) (hob : cd.mro.contains (.type "object") = true) (hne : cd.mro.isEmpty = false) (hh : cd.hasDict = true) (ha : findIn K (.ref C) name = some none)
    (hq : ∀ h' tk' dx, (∀ b o, b ≠ x → hp.get? b = some o → h'.get? b = some o) → hp.objs.size ≤ dx → dx ≠ x → h'.get? x = some { cls := .ref C, dict := some dx, data := .fields fv } →
      h'.Ns1 dx (fun y => if y = name then some v else none) → R (.ok (.ret .none)) ⟨h', g, d, tk', os⟩) :
    codeAny (model prog w) A (.call (.builtin "object.__setattr__") ⟨[.ref x, .str name tk, v], []⟩) R ⟨hp, g, d, t, os⟩ := by
  have SF := F.store_object
  have I : InstAt hp x { cls := .ref C, data := .fields fv } C none := ⟨hx, rfl, rfl, trivial⟩
  have hxs : x ≠ hp.objs.size := Nat.ne_of_lt (Heap.lt_size hx)
  have hcls : Looks (model prog w) hp (classData C) cd := looks_clsIn X hcd
  have hmr : Looks (model prog w) hp (mroOf (.ref C)) cd.mro := hcls.andThen .now
  have L3 : Looks (model prog w) hp (storeTaker? none) none := .now
  have sub : Looks (model prog w) hp (isInstance (.ref x) (.type "object")) true := I.type.andThen (looks_mroIn X (by unfold mroIn; rw [hcd, Option.bind_some, if_neg (by rw [hne]; decide), hob]))
  refine codeAny_call_builtin SF.slot.plain SF.entry (@check_slot (model prog w) _ _ ⟨hp, g, d, t, os⟩ "object.__setattr__" "object" "__setattr__" (.ref x) [.str name tk, v] [] _ SF.kind SF.split sub (SF.args (.ref x) (.str name tk) v) ?_)
  rw [osa_eq, refuse_eq]
  refine wpAny_bind (wpAny_bind (I.type.at (wpAny_bind (hmr.at ?_))))
  rw [hps]
  refine wpAny_pure (wpAny_bind (I.type.at (wpAny_bind ((looks_findIn X ha).at (wpAny_bind (L3.at ?_))))))
  show wpAny _ _ (storeInOwnDict (.ref x) (.ref C) (.str name tk) name v false) _ _ _
  obtain ⟨nm, bs, mro, ns, qn, hd, sn, sb, ab, col, del⟩ := cd
  dsimp only at hh
  subst hh
  unfold storeInOwnDict ownDictForStores
  repeat (first | with_reducible refine hcls.at ?_ | with_reducible refine wpAny_loadPart_at hx ?_ | with_reducible refine store_in_new ?_ ?_ | wp_step)
  · exact ⟨_, #[], _, (Heap.get?_update_ne _ _ _ _ hxs.symm).trans (Heap.get?_push_at rfl rfl), rfl, fun e he => absurd he (by simp), fun _ => rfl⟩
  · intro h' tk' hn' hs
    have hx1 : (hp.push { cls := .type "dict", data := .dict #[] }).get? x = some { cls := .ref C, data := .fields fv } := Heap.get?_push_of_some _ hx
    refine hq h' tk' hp.objs.size (fun b o hb ho => ?_) (Nat.le_refl _) hxs.symm ?_ hn'
    · have z := Heap.lt_size ho
      exact (hs.2 b (Nat.ne_of_lt z)).trans ((Heap.get?_update_ne _ _ _ _ hb).trans (Heap.get?_push_of_some _ ho))
    · exact (hs.2 x hxs).trans (Heap.get?_update_self _ hx1 rfl)
end
section
variable {X : Cx} {pins : List (Addr × Obj)} {σ : L2.St} {H : Hp} {s : Shared} {a C : Addr} {f : Str} {y : V} {u : Value} {Q : Unit → Shared → Prop} {E : Value → Shared → Prop} {A : Around} {B nid iid : String} {tl : List Value}
/-- self.f = y -/
theorem ostX (b : XBase B nid iid tl) (T : ExcK X.K C B nid tl) (I : Inv X pins σ H s) (e : H a = some (exo a C none)) (hno : PySem.W.findIn X.K (.ref C) f = some none) (ry : RelV y u)
    (h : ∀ dx s', H dx = none → dx ≠ a → Inv X pins σ (upd (upd H dx (exd dx [(f, y)])) a (exo a C (some dx))) s' → Q () s') : wpAny (model X.prog X.w) A (setAttr (.ref a) f u) Q E s := by
  obtain ⟨nm, q, N, bs, cs, sn, sub, ab, col, dd, k0, k1, k2, k3, k5, hC⟩ := T.cls
  have hcl : PySem.W.clsIn X.K C = some { name := nm, bases := bs, mro := .ref C :: (List.map Value.ref cs ++ tl), ns := N, qualname := q, hasDict := true, slotNames := sn, subclasses := sub, abstract := ab, collection := col, hasDel := false } := by unfold PySem.W.clsIn; rw [hC] <;> rfl
  obtain ⟨t1, ho⟩ := exo_at I.hok e
  obtain ⟨hp, g, d, t, os⟩ := s
  refine PySem.W.set_plain I.kIn (ox := { cls := .ref C, dict := none, data := .fields #[.ref t1, .none, .none, .none, .bool false, .none] }) (od := none) ⟨ho, rfl, rfl, trivial⟩ T.sa ?_
  refine osaX I.kIn ho hcl (refs_pass (.ref a) (b.pass _) (C :: cs)) ((refs_contains tl "object" (C :: cs)).trans b.ob) rfl rfl hno (fun h' tk' dx k dn dne hx hn => ?_)
  have hnd : H dx = none := I.hok.fresh dn
  have nd : ∀ {b : Addr} {o : Obj}, hp.get? b = some o → b ≠ dx := fun {b o} q => Nat.ne_of_lt (Nat.lt_of_lt_of_le (Heap.lt_size q) dn)
  have na : ∀ {b : Addr}, H b = none → b ≠ a := fun {b} n z => by
    rw [z, e] at n
    cases n
  have Un1 : Un X.fs [] H (upd (upd H dx (exd dx [(f, y)])) a (exo a C (some dx))) hp h' := by
    constructor
    · exact fun b o q n _ _ => k b o (na n) q
    · exact fun b o q n _ _ => ⟨o.slots, k b o (na n) q⟩
    · exact fun b o q n _ => by rw [upd_ne (na n), upd_ne (nd q)]; exact n
    · intro b o q _
      by_cases hb : b = a
      · exact ⟨_, by rw [hb]; exact hx⟩
      · exact ⟨o, k b o hb q⟩
    · exact fun b xs q => by rw [upd_ne (at_ne e q exo_tup), upd_ne (ne_of_none q hnd)]; exact q
    · exact fun b o v q => by rw [upd_ne (at_ne e q exo_frz), upd_ne (ne_of_none q hnd)]; exact q
    · exact fun b ps q => ⟨#[], by rw [upd_ne (at_ne e q exo_tbl), upd_ne (ne_of_none q hnd), q]; simp⟩
  refine h dx _ hnd dne (I.un (t' := tk') Un1 fun b o q => ?_)
  by_cases hb : b = a
  · subst hb
    rw [upd_same] at q
    cases q
    exact exo_ok hx
  · rw [upd_ne hb] at q
    by_cases hd : b = dx
    · subst hd
      rw [upd_same] at q
      cases q
      exact exd_ok hn (relO_put (fs := []) ry fun g => True.intro)
    · rw [upd_ne hd] at q
      refine (I.hok b o q).stay (fun c v hc z => k c v ?_ z) (fun c hc => ?_) fun c xs hc => ?_
      · rcases hc with hc | hc
        · rw [hc]; exact hb
        · exact at_ne e hc exo_own
      · rw [upd_ne (at_ne e hc exo_own), upd_ne (ne_of_none hc hnd)]; exact hc
      · rw [upd_ne (at_ne e hc exo_tup), upd_ne (ne_of_none hc hnd)]; exact hc
end
section
variable {prog : Program} {w : World} {A : Around} {E : Value → Shared → Prop} {h : Heap} {g : Array GenState} {d : Drawn} {t : Nat} {os : OsState} {B nid iid : String} {tl : List Value}
variable {nm q : Str} {C N : Addr} {bs bm : List Value} {hdct : Bool} {sn : List Str} {sub : List Value} {ab : Bool} {col : Option Bool} {dd : Option Addr} {k0 k1 k2 k3 k5 : Option Value}
/-- the bound __init__ of the base, called -/
theorem mwX (b : XBase B nid iid tl) {u e t0 : Addr} {rest : List Value} {Q : Value → Shared → Prop} (hC : h.get? C = some (excClassObj nm q C N bs bm hdct sn sub ab col dd k0 k1 k2 k3 k5 nid)) (he : h.get? e = some (PySem.HandSPX.excO C t0)) (hu : h.get? u = some (PySem.W.kxs_mw iid e)) (hl : rest.length ≤ sizeLine)
    (hq : ∀ h' t1, (∀ b o, b ≠ e → h.get? b = some o → h'.get? b = some o) → h'.get? e = some (PySem.HandSPX.excO C t1) → Q .none ⟨h', g, d, t, os⟩) :
    wpAny (model prog w) A (call (.ref u) rest) Q E ⟨h, g, d, t, os⟩ := by
  refine wpAny_call (codeAny_of_tree ?_)
  show wpAny _ A.in1 (callAny (.ref u) ⟨rest, []⟩) _ _ _
  simp only [callAny]
  refine wpAny_bind (wpAny_load hu ?_)
  simp only [PySem.W.kxs_mw, show (Value.type "method-wrapper" == Value.type "method" || Value.type "method-wrapper" == Value.type "builtin_function_or_method" || Value.type "method-wrapper" == Value.type "method-wrapper") = true by decide, if_true]
  refine PySem.W.KFB.if_so (by decide) ?_
  have chk : ∀ {P : Unit → Shared → Prop} {E' : Value → Shared → Prop}, P () ⟨h, g, d, t, os⟩ → wpAny (model prog w) A.in1 (checkBoundCall iid ⟨.ref e :: rest, []⟩) P E' ⟨h, g, d, t, os⟩ := fun {P E'} hp => by
    have c1 := b.star
    simp only [checkBoundCall, b.ikind, b.irow]
    repeat (first | (with_reducible refine wpAny_loadPart_at he ?_) | with_reducible refine wpAny_loadPart_at hC ?_ | wp_step)
    refine wpAny_onRaise ?_
    rw [show ∀ (x y : String) (n : Nat), Bind.check ⟨.positional, "*", B, .self, [⟨"args", .varPos, false⟩]⟩ x y n (List.map (fun x => x.fst) ({ pos := Value.ref e :: rest } : Args).kw) = pure () from
      fun x y n => check_star_args _ _ _ _ _ _]
    exact wpAny_pure hp
  refine wpAny_bind (chk ?_)
  refine wpAny_bind (wpAny_pure (wpAny_pure ?_))
  refine ⟨plainId_quiet b.ipl _, codeAny_builtin b.ient ?_⟩
  rw [Around.under_plainId b.ipl _]
  wp_walk
  refine hq _ h.objs.size (fun b o hb ho => ?_) ?_
  · rw [Heap.get?_update_other _ _ (Ne.symm hb)]
    exact Heap.get?_push_of_some _ ho
  · rw [Heap.get?_update_self _ (Heap.get?_push_of_some _ he) rfl]
    rfl
end
end DL
set_option Elab.async false
set_option linter.all false
set_option maxRecDepth 100000
set_option maxHeartbeats 4000000
/-! DX4: the __init__ of an own exception: super().__init__(text), self.f = y. -/
namespace DL
open PySem L2 PySem.Spec PyProof.Rows
theorem sup_eq {env : PySem.Env} {p0 p1 p2 p3 p4 : Pos} {txt : Str} {j : Nat} (hl : (p2.endLine == p4.line) = true) : eval (.Call (.Attribute (.Call (.Name "super" p0) [] [] p1) "__init__" p2) [.Constant (.str txt) j p3] [] p4) env = (do
      let ov ← attributeBase (.Call (.Name "super" p0) [] [] p1) "__init__" env (eval (.Call (.Name "super" p0) [] [] p1) env)
      standAt p2.atName
      let (f, first) ← holding [ov] (getMethod ov "__init__" (do return (← importBound (.Call (.Name "super" p0) [] [] p1) env).getD true))
      callWith p4 f first (backTo p4 (starEach [.Constant (.str txt) j p3] env)) []) := by
  show (do
    let ov ← attributeBase (.Call (.Name "super" p0) [] [] p1) "__init__" env (eval (.Call (.Name "super" p0) [] [] p1) env)
    standAt p2.atName
    methodCall (.Call (.Name "super" p0) [] [] p1) "__init__" p2 p4 env ov _ (backTo p4 (starEach [.Constant (.str txt) j p3] env)) (backToKw p4 (keywordEach [] env))) = _
  congr 1; funext ov; congr 1; funext _
  unfold methodCall methodCallPos
  rw [hl]
  rfl
/-- what the written part says of such an __init__ -/
structure IniK (P : Program) (K : PySem.W.Frag) (mg : Str → Option Value) (C : Addr) (iid : String) (fI : Addr) (fd : FuncData) (sf ar fld txt : Str) : Prop where
  fn : ∃ oc od name qual params scope cc dV kV doc pm an cda ct osl j p0 p1 p2 p3 p4 p5 p6 p7 p8 p9, K.lookup fI = some ⟨oc, od, .func fd, osl⟩ ∧
    fd = PySem.W.fnX name qual params [.Expr (.Call (.Attribute (.Call (.Name "super" p0) [] [] p1) "__init__" p2) [.Constant (.str txt) j p3] [] p4) p5, .Assign [.Attribute (.Name sf p6) fld p7] (.Name ar p8) p9] scope [("__class__", cc)] dV kV doc pm an (.ref cda) ct ∧
    PySem.W.codeIn K (.ref cda) qual = true ∧ (∃ ccl cdd vsc ccs file tf, K.lookup cda = some ⟨ccl, cdd, .fields vsc, ccs⟩ ∧ vsc[2]? = some (.str file tf) ∧ ((P.main.file : Str) == file) = true) ∧
    (∃ cl cld csl, K.lookup cc = some ⟨cl, cld, .cell (some (.ref C)), csl⟩) ∧ (∃ a, (params.posonlyargs ++ params.args).head? = some a ∧ a.arg = sf) ∧
    NdefX.NScope [sf, ar, "__class__"] [sf, ar] ["__class__"] scope ∧ scope.names.lookup ("super" : Str) = some .globalImplicit ∧ (p2.endLine == p4.line) = true
  sup : PySem.W.ks_superIn K C C "__init__" = some (some (.builtin iid))
  opq : PySem.W.nsIn K cStatics "thirdparty.any" = some none
  ms : mg "super" = none
  top : (P.main.scope.names.lookup ("super" : Str)).isSome = false
  no : PySem.W.findIn K (.ref C) fld = some none
def spI (C : Addr) (fld : Str) : Sp := fun vs H Q _ => ∃ a y, vs = [.ref a, y] ∧ H a = some (exo a C none) ∧ ∀ dx, H dx = none → dx ≠ a → Q .non (upd (upd H dx (exd dx [(fld, y)])) a (exo a C (some dx)))
def tOX (K : PySem.W.Frag) (C : Addr) (f : Str) (to te : TE) : TS := fun D σ H => te σ H fun y H1 => to σ H1 fun x H2 => ∃ a : Addr, x = .ref a ∧ H2 a = some (exo a C none) ∧ ∀ dx, H2 dx = none → dx ≠ a → D.nx σ (upd (upd H2 dx (exd dx [(f, y)])) a (exo a C (some dx)))
theorem ps_oX {X : Cx} {C : Addr} {B nid iid : String} {tl : List Value} {o e : Expr} {to te : TE} {f : Str} {p' pos : Pos} (b : XBase B nid iid tl) (T : ExcK X.K C B nid tl) (hno : PySem.W.findIn X.K (.ref C) f = some none) (ho : PE X o to) (he : PE X e te) (hs : swapsWith e (some (.Attribute o f p')) pos.line X.env = pure false := by rfl) : PS X (.Assign [.Attribute o f p'] e pos) (tOX X.K C f to te) := by
  refine ⟨fun pins s σ H D I h => plainObj_wpAny_Assign_Attribute (thn (he.run pins s σ H _ I h) fun v s1 ⟨y, H1, I1, r1, q1⟩ => thn (ho.run pins s1 σ H1 _ I1 q1) fun u s2 ⟨x, H2, I2, r2, a, ex, ea, q⟩ => ?_) hs⟩
  subst ex
  obtain rfl : u = Value.ref a := r2
  exact ostX b T I2 ea hno r1 fun dx s' n ne J => ⟨σ, _, J, q dx n ne⟩
theorem init_ok {CX : CXT} {P : Program} {w : World} {K : PySem.W.Frag} {mg : Str → Option Value} {base : Heap} {k : Nat} {C fI : Addr} {fd : FuncData} {sf ar fld txt : Str} {B nid iid : String} {tl : List Value} (b : XBase B nid iid tl) (T : ExcK K C B nid tl) (N : IniK P K mg C iid fI fd sf ar fld txt) (hne : sf ≠ ar)
    (hdb : (sf == ("__debug__" : Str)) = false) (hda : (ar == ("__debug__" : Str)) = false) (hcb : (sf == ("__classdict__" : Str)) = false) (hca : (ar == ("__classdict__" : Str)) = false) : FnOk P w K mg base CX (k + 1) fI fd [sf, ar] (spI C fld) := by
  refine ⟨fun vs H Q E ⟨a, y, e, _⟩ => by rw [e] <;> rfl, fun A outer s H args us vs Q E hr e0 hb r hsp => ?_⟩
  obtain ⟨oc, od, name, qual, params, scope, cc, dV, kV, doc, pm, an, cda, ct, osl, j, p0, p1, p2, p3, p4, p5, p6, p7, p8, p9, lk, rfl, hcd, ⟨ccl, cdd, vsc, ccs, file, tf, lkc, hvs, hfile⟩, ⟨cl, cld, csl, lkx⟩, ⟨ag, hag, rfl⟩, S, hks, hln⟩ := N.fn
  obtain ⟨a, y, rfl, ea, hq⟩ := hsp
  have KX : K.In s.heap := e0.mod.kin.keeps fun b o e => (e0.bs b o e).1
  have lim : s.heap.NoLimit := e0.mod.nolimit.keeps fun b o e => (e0.bs b o e).1
  have bx : base.get? cc = some ⟨cl, cld, .cell (some (.ref C)), csl⟩ := e0.mod.kin _ _ lkx
  obtain ⟨hp, g, d, tk, os⟩ := s
  refine PySem.ks_codeAny_call_defAt hr.depth (KX _ _ lk) rfl lim (PySem.W.codeRec_of KX hcd) rfl hb S.nocell (fun x hx => S.par _ (List.of_mem_zip hx).1) (fun h1 hns hk => ?_) S.co S.gen S.kind
  have C0 : NdefX.CellsAt [("__class__", cc)] ["__class__"] [none] hp H := by
    refine ⟨rfl, fun y c e => ?_, fun x y c e1 e2 => ?_, fun i y e => ?_⟩
    · have : y = "__class__" ∧ c = cc := by
        simp only [List.lookup] at e
        split at e
        · rename_i z; exact ⟨by simpa using z, by simpa using e.symm⟩
        · cases e
      obtain ⟨_, rfl⟩ := this
      exact ⟨(e0.bs _ _ bx).2, _, _, (e0.bs _ _ bx).1, rfl⟩
    · have f : ∀ z : Str, ([("__class__", cc)] : List (Str × Addr)).lookup z = some c → z = "__class__" := fun z e => by
        simp only [List.lookup] at e
        split at e
        · rename_i q; simpa using q
        · cases e
      rw [f x e1, f y e2]
    · match i, e with
      | 0, e =>
        have e : some ("__class__" : Str) = some y := e
        cases e
        exact ⟨cc, rfl, fun v z => (by cases z)⟩
      | i + 1, e => exact absurd e (by simp)
  have I := NdefX.inv_startN (CX := CX) (E := E) (F := ⟨name, qual, params, [.Expr (.Call (.Attribute (.Call (.Name "super" p0) [] [] p1) "__init__" p2) [.Constant (.str txt) j p3] [] p4) p5, .Assign [.Attribute (.Name ag.arg p6) fld p7] (.Name ar p8) p9], scope, [("__class__", cc)], cda⟩) (f := fI) (h₁ := h1) (tk := tk + ([ag.arg, ar].zip us).length) S hr.hd e0 rfl r C0 hns hk
  obtain ⟨nm, q, N0, bs, cs, sn, sub, ab, col, dd, k0, k1, k2, k3, k5, hC⟩ := T.cls
  have hcl : PySem.W.clsIn K C = some { name := nm, bases := bs, mro := .ref C :: (List.map Value.ref cs ++ tl), ns := N0, qualname := q, hasDict := true, slotNames := sn, subclasses := sub, abstract := ab, collection := col, hasDel := false } := by unfold PySem.W.clsIn; rw [hC] <;> rfl
  have hsC : PySem.W.mroIn K C (.ref C) = some true := by
    unfold PySem.W.mroIn
    rw [hcl]
    simp
  obtain ⟨t1, hx1⟩ := exo_at I.hok ea
  have hx1 : h1.get? a = some ({ cls := .ref C, dict := none, data := .fields #[.ref t1, .none, .none, .none, .bool false, .none] } : Obj) := hx1
  have gs : ∀ {b : Addr} {o : Obj}, K.lookup b = some o → h1.get? b = some o := fun {b o} e => hk _ _ (KX _ _ e)
  obtain ⟨mb, bl1, bl2⟩ := I.mod.blt
  refine PySem.ks_wpAt_execs_cons (PySem.ks_wpAt_Expr_any (PySem.ks_wpAt_MethodCall (PySem.ks_wpAt_super_base (env := PySem.W.envX qual scope hp.objs.size fI (.ref cda) [("__class__", cc)]) hks (S.frk _ (.head _)) (by decide) rfl (gs lk) rfl hag rfl (gs lkc) rfl hvs hfile N.top ?_) (sup_eq hln)) I.quiet)
  refine PySem.W.ks_loadName_global S.kind hks (Calls.loadGlobal_builtin (I.mod.glob.keeps I.bk) N.ms (bl1.keeps I.bk) ((bl2 _ (by decide)).trans (by first | boot_by_name | rfl | kernel_rfl)) ⟨rfl, ?_⟩)
  refine wpAny_loadName_free S.kind (S.frk _ (.head _)) rfl ⟨_, gs lkx, rfl⟩ ?_
  obtain ⟨u0, u1, hu⟩ : ∃ u0 u1, us = [u0, u1] := by
    cases r with
    | cons r1 r => cases r with
      | cons r2 r => cases r with
        | nil => exact ⟨_, _, rfl⟩
  subst hu
  obtain rfl : u0 = Value.ref a := by
    cases r with
    | cons r1 r => exact r1
  refine wpAny_loadName_local S.kind (S.par _ (.head _)) hns (NdefX.zip_look (i := 0) (by simpa using hne) rfl rfl) ?_
  refine PySem.ks_wpAny_isType_cls (gs hC) rfl ⟨rfl, ?_⟩
  refine PySem.ks_wpAny_call_super (gs hC) rfl hx1 rfl (fun c z => by cases z) (PySem.W.looks_mroIn (I.kIn) hsC) (fun h2 so k2 => ?_)
  have I2 := I.kept (h' := h2) (t' := tk + ([ag.arg, ar].zip [Value.ref a, u1]).length) k2
  have hx2 := k2 _ _ hx1
  have K2 : K.In h2 := I2.kIn
  have J2 : PySem.W.InstAt h2 a ({ cls := .ref C, dict := none, data := .fields #[.ref t1, .none, .none, .none, .bool false, .none] } : Obj) C none := ⟨hx2, rfl, rfl, trivial⟩
  have hsup : PySem.W.alongIn K "__init__" (((Value.ref C :: (List.map Value.ref cs ++ tl)).dropWhile (· != .ref C)).drop 1) = some (some (.builtin iid)) := by
    have z := N.sup
    unfold PySem.W.ks_superIn at z
    rw [hcl] at z
    exact z
  refine PySem.W.kxs_getMethod b.kx so (PySem.W.looks_opaque K2 N.opq) (l₀ := Value.ref C :: (List.map Value.ref cs ++ tl)) (fun A Q E s k q => wpAny_bind ((PySem.W.looks_clsIn K2 hcl) A _ E s k (wpAny_pure q))) rfl K2 hsup (J2.type.andThen (PySem.W.looks_subIn K2 T.sB)) (PySem.W.ks_ne K2 J2 hcl) (by decide) ?_
  have k3 : ∀ b o, h2.get? b = some o → (h2.push (PySem.W.kxs_mw iid a)).get? b = some o := fun b o e => Heap.get?_push_of_some _ e
  have I3 := I2.kept (h' := h2.push (PySem.W.kxs_mw iid a)) (t' := tk + ([ag.arg, ar].zip [Value.ref a, u1]).length + 1) k3
  refine PySem.W.kxs_callWith (i := iid) (x := a) rfl (Calls.evalArgs_plain (Calls.spliced_cons (Calls.Constant_str (k := j) (pos := p3) (Calls.spliced_nil ⟨Heap.get?_push_size _ rfl, ?_⟩))))
  have hx3 := k3 _ _ hx2
  refine mwX b (k3 _ _ (k2 _ _ (gs hC))) hx3 (Heap.get?_push_size _ rfl) (show 1 ≤ sizeLine by decide) fun h4 t4 k4 hx4 => ?_
  have I4 := I3.write (t' := tk + ([ag.arg, ar].zip [Value.ref a, u1]).length + 1 + 1) (h' := h4) (x := a) (e := a) (o := exo a C none) (by rw [ea]; exact True.intro) (.inl rfl) k4 ⟨_, hx4⟩ (exo_ok hx4)
  have eu : upd H a (exo a C none) = H := by
    funext b
    by_cases hb : b = a
    · rw [hb, upd_same, ea]
    · rw [upd_ne hb]
  rw [eu] at I4
  refine PySem.wpAt_of_wpAny (wpAny_mono ((pss_one (ps_oX b T N.no (pe_var (i := 0) rfl (.inl (S.par _ (.head _))) hdb hcb) (pe_var (i := 1) rfl (.inl (S.par _ (.tail _ (.head _)))) hda hca))).run [] _ _ _ { nx := fun _ H' => Q .non H', rt := Q } I4 ?_) (fun fl s' hs => ?_) fun e s' hs => hs)
  · exact ⟨y, rfl, .ref a, rfl, a, rfl, ea, hq⟩
  · cases fl with
    | ret u =>
      obtain ⟨v, σ', H', J, rv, q⟩ := hs
      exact ⟨v, H', J.os, J.bare, J.base, J.hok, rv, q⟩
    | next =>
      obtain ⟨σ', H', J, q⟩ := hs
      exact ⟨.non, H', J.os, J.bare, J.base, J.hok, rfl, q⟩
    | brk =>
      obtain ⟨_, _, _, q⟩ := hs
      exact False.elim q
    | cont =>
      obtain ⟨_, _, _, q⟩ := hs
      exact False.elim q
end DL
set_option Elab.async false
set_option linter.all false
set_option maxRecDepth 100000
set_option maxHeartbeats 4000000
/-! DX5: C(e) for such a class; raise at data level. -/
namespace DL
open PySem L2 Evl PySem.Spec PyProof.Rows
def tMkE (C : Addr) (f : Str) (te : TE) : L2.St → Hp → XK → Prop := fun σ H Q => te σ H fun v H1 => ∀ d, H1 d = none → Q (.ref C) (some d) (upd H1 d (.xd [(f, v)]))
theorem pmk_X {X : Cx} {B nid iid : String} {tl : List Value} {x : Str} {C fI : Addr} {k : Nat} {fd : FuncData} {sf ar f : Str} {e : Expr} {te : TE} {p pos : Pos} (b : XBase B nid iid tl) (T : ExcK X.K C B nid tl) (iC : PySem.W.findIn X.K (.ref C) "__init__" = some (some (.ref fI)))
    (tI : PySem.W.typeIn X.K (.ref fI) = some (.type "function")) (F1 : FnOk X.prog X.w X.K X.mg X.base (L2.CX X.prog X.w) k fI fd [sf, ar] (spI C f)) (hr : Room (k + 1) X.A) (hb : Binds X.K fd [sf, ar] []) (hg : Gl X x) (hm : X.mg x = some (.ref C)) (he : PE X e te)
    (hdb : (x == ("__debug__" : Str)) = false := by decide) (hs : starEach [e] X.env = [(false, eval e X.env)] := by rfl) : PMk X (.Call (.Name x p) [e] [] pos) (tMkE C f te) := by
  intro pins s σ H Q I h
  obtain ⟨nm, q, N, bs, cs, sn, sub, ab, col, dd, k0, k1, k2, k3, k5, hC⟩ := T.cls
  obtain ⟨Bn, inn, ib, Fn, hBn⟩ := b.nw
  have M : Bms Bn (List.map Value.ref cs ++ tl) := ⟨(refs_contains tl _ cs).trans hBn, (refs_contains tl _ cs).trans b.noA, (refs_contains tl _ cs).trans b.noN⟩
  refine wpAny_Call_Name_kw (ld_glob I hg hm ?_ hdb)
  have ha := (pa_cons he pa_nil (by rw [hs] <;> rfl)).run pos pins s σ H (fun vs H1 => match vs with | [v] => ∀ d, H1 d = none → Q (.ref C) (some d) (upd H1 d (.xd [(f, v)])) | _ => False) I h
  refine PySem.W.callWith_K (h₀ := X.base) I.ok.mod.kin T.kC (thn ha fun us s1 ⟨vs, H1, I1, r1, q1⟩ => ⟨I1.kIn, ?_⟩) (by rw [hs] <;> rfl) rfl
  show wpAny _ _ (call (.ref C) us) _ _ _
  cases r1 with
  | nil => exact q1.elim
  | @cons v u vr ur rv rr =>
  cases rr with
  | cons r2 rr2 => exact q1.elim
  | nil =>
  obtain ⟨hp, g, dr, tk, os⟩ := s1
  have hsz : hp.objs.size ≤ hp.objs.size + 1 := Nat.le_succ _
  have hn : H1 (hp.objs.size + 1) = none := I1.hok.fresh hsz
  have kk : ∀ b o, hp.get? b = some o → ((hp.push (PySem.W.kdv_tup [u])).push (PySem.HandSPX.excO C hp.objs.size)).get? b = some o := fun b o e => Heap.get?_push_of_some _ (Heap.get?_push_of_some _ e)
  have hget : ((hp.push (PySem.W.kdv_tup [u])).push (PySem.HandSPX.excO C hp.objs.size)).get? (hp.objs.size + 1) = some (PySem.HandSPX.excO C hp.objs.size) := by heap_get
  have I2 : Inv X pins σ (upd H1 (hp.objs.size + 1) (exo (hp.objs.size + 1) C none)) ⟨(hp.push (PySem.W.kdv_tup [u])).push (PySem.HandSPX.excO C hp.objs.size), g, dr, tk, os⟩ := I1.laid (t' := tk) kk hsz (exo_ok hget)
  have hsp : spI C f [.ref (hp.objs.size + 1), v] (upd H1 (hp.objs.size + 1) (exo (hp.objs.size + 1) C none)) (fun z H2 => z = .non ∧ ∃ d, H1 d = none ∧ d ≠ hp.objs.size + 1 ∧
      H2 = upd (upd (upd H1 (hp.objs.size + 1) (exo (hp.objs.size + 1) C none)) d (exd d [(f, v)])) (hp.objs.size + 1) (exo (hp.objs.size + 1) C (some d))) (fun _ _ _ => False) :=
    ⟨_, v, rfl, upd_same, fun d hd ne => ⟨rfl, d, by rw [upd_ne ne] at hd; exact hd, ne, rfl⟩⟩
  refine wpAny_call (callN Fn M (I1.kIn _ _ hC) (PySem.W.looks_findIn I1.kIn iC) (fun self => PySem.W.bind_fn I1.kIn self tI) (show 1 ≤ sizeLine by decide)
    (codeAny_mono (F1.run _ X.stack _ _ ⟨Value.ref (hp.objs.size + 1) :: [u], []⟩ [Value.ref (hp.objs.size + 1), u] _ _ (fun _ _ _ => False) (hr.make C [u] []) (I2.env0.make C [u] []) (hb _ [Value.ref (hp.objs.size + 1), u] I2.kIn rfl) (show Vals [V.ref (hp.objs.size + 1), v] _ from .cons rfl (.cons rv .nil)) hsp) fun r s' hq' => ?_))
  cases r with
  | error er => exact passAt (W := fun _ _ _ _ => False) LamX.takes0 σ pins _ _ er s' I2 hq'
  | ok fl =>
    cases fl with
    | ret z =>
      obtain ⟨w, H2, os2, bare2, un2, hok2, rv2, ev, d, hd1, dne, eH⟩ := hq'
      subst ev
      obtain ⟨h2, g2, d2, t2, os'⟩ := s'
      refine ⟨rv2, mk_end (raises_own T.exC T.tyC) I1 hsz kk un2 hok2 os2 bare2 (fs := [(f, v)]) (by rw [eH, upd_same]) (by rw [eH, upd_ne dne, upd_same]) hd1 ?_⟩
      have : upd (del H2 (hp.objs.size + 1)) d (.xd [(f, v)]) = upd H1 d (.xd [(f, v)]) := by
        funext b
        by_cases h1 : b = d
        · rw [h1, upd_same, upd_same]
        · rw [upd_ne h1, upd_ne h1]
          by_cases h2 : b = hp.objs.size + 1
          · rw [h2, del_same, hn]
          · rw [del_ne h2, eH, upd_ne h2, upd_ne h1, upd_ne h2]
      rw [this]
      exact q1 d hd1
    | next => exact False.elim hq'
    | brk => exact False.elim hq'
    | cont => exact False.elim hq'
/-- raise C(e) -/
def dRaise (C : Addr) (f : Str) (de : DE) : DS := fun ρ P => de ρ P.ex fun d ρ1 => P.ex ⟨C, f, d⟩ ρ1
section
variable [Tbs] {X : Cx} {W : WX} {e : Expr} {de : DE}
theorem pds_raise {B nid iid : String} {tl : List Value} {x : Str} {C fI : Addr} {k : Nat} {fd : FuncData} {sf ar f : Str} {p pos pos' : Pos} (b : XBase B nid iid tl) (T : ExcK X.K C B nid tl) (iC : PySem.W.findIn X.K (.ref C) "__init__" = some (some (.ref fI)))
    (tI : PySem.W.typeIn X.K (.ref fI) = some (.type "function")) (F1 : FnOk X.prog X.w X.K X.mg X.base (L2.CX X.prog X.w) k fI fd [sf, ar] (spI C f)) (hr : Room (k + 1) X.A) (hb : Binds X.K fd [sf, ar] []) (hg : Gl X x) (hm : X.mg x = some (.ref C)) (hc : X.calm = true) (tk : Takes X W) (he : PD X W e de)
    (hdb : (x == ("__debug__" : Str)) = false := by decide) (hs : starEach [e] X.env = [(false, eval e X.env)] := by rfl) : PDS X W (.Raise (some (.Call (.Name x p) [e] [] pos)) none pos') (dRaise C f de) := by
  refine ⟨⟨fun le h => he.mono.go le.ex (fun d ρ h => le.ex _ _ h) h⟩, PS.imp (ps_raise hc tk (pmk_X b T iC tI F1 hr hb hg hm he.run hdb hs)) fun D σ H ⟨B, F, ρ, S, h⟩ => ?_⟩
  refine liftE.ofS he.mono S h fun d ρ1 h v F1 H1 e1 S1 r1 dd hd => ?_
  obtain ⟨e2, S2⟩ := S1.alloc (o := .xd [(f, v)]) hd
  exact h _ σ _ dd v (e1.trans e2) S2 upd_same (r1.mono e2)
end
end DL
set_option Elab.async false
set_option linter.all false
set_option maxRecDepth 100000
set_option maxHeartbeats 4000000
/-! DX6: a lambda is made: what changes is told exactly. -/
namespace DL
open PySem L2 Evl PySem.Spec PyProof.Rows LamX
/-- behind the making of a lambda: nothing, or a table has one row more, of a new code object -/
def LamH (T : List (Addr × Str)) (H H1 : Hp) : Prop := H1 = H ∨ ∃ p ∈ T, ∃ (ps more : Array Value) (c : Addr) (q : Str), H p.1 = some (.tbl ps) ∧ H c = none ∧ H1 = upd (upd H p.1 (.tbl (ps ++ more))) c (CodeO c q)
section
variable {X : Cx} {pins : List (Addr × Obj)} {σ : L2.St} {H : Hp} {s : Shared}
/-- where a new thing is laid no frame lies -/
theorem no_frame (I : Inv X pins σ H s) {f : Addr} (hf : s.heap.objs.size ≤ f) : f ∉ frs X.stack := fun z => by
  rcases List.mem_cons.mp (I.stkSub _ z) with e | e
  · exact absurd (show f < s.heap.objs.size by rw [e]; exact I.lt) (Nat.not_lt.mpr hf)
  · exact I.nofs hf e
/-- a table with one row more tells code objects of the same name -/
theorem tabs_more {T : List (Addr × Str)} {P c : Addr} {q : Str} {pos : Pos} {ps : Array Value} (hT : Tabs T H) (hm : (P, q) ∈ T) (hu : ∀ p ∈ T, p.1 = P → p.2 = q) (hP : H P = some (.tbl ps)) (nC : H c = none) :
    Tabs T (upd (upd H P (.tbl (ps ++ #[rawInt pos.line, rawInt pos.col, .ref c]))) c (CodeO c q)) := by
  have keep : ∀ b o, H b = some o → b ≠ P → upd (upd H P (.tbl (ps ++ #[rawInt pos.line, rawInt pos.col, .ref c]))) c (CodeO c q) b = some o := fun b o e n => by rw [upd_ne (ne_of_none e nC), upd_ne n]; exact e
  have code : ∀ b d, H b = some (CodeO b d) → b ≠ P := fun b d e z => by rw [z, hP] at e; exact codeO_ne ps (Option.some.inj e).symm
  intro p hp
  obtain ⟨qs, a1, a2, a3⟩ := hT p hp
  by_cases hb : p.1 = P
  · rw [hb, hP] at a1
    cases a1
    have eL : (ps ++ #[rawInt pos.line, rawInt pos.col, .ref c]).toList = ps.toList ++ [rawInt pos.line, rawInt pos.col, .ref c] := by simp
    rw [hu p hp hb, hb]
    refine ⟨_, by rw [upd_ne (ne_of_none hP nC), upd_same], by rw [eL]; exact PySem.TriplesOk_snoc _ _ _ _ a2, fun p' cv hcv => ?_⟩
    rw [eL] at hcv
    rcases among_app _ a2 hcv with z | z
    · obtain ⟨c0, e1, e2⟩ := a3 p' cv z
      rw [hu p hp hb] at e2
      exact ⟨c0, e1, keep _ _ e2 (code _ _ e2)⟩
    · exact ⟨c, z, upd_same⟩
  · refine ⟨qs, keep _ _ a1 hb, a2, fun p' cv hcv => ?_⟩
    obtain ⟨c0, e1, e2⟩ := a3 p' cv hcv
    exact ⟨c0, e1, keep _ _ e2 (code _ _ e2)⟩
abbrev lamO (X : Cx) (params : Arguments) (body : Expr) (scope : Scope) (pm ctv : Value) (c' : Addr) : Obj := PySem.W.kla_obj "<lambda>" (X.env.qual ++ "<lambda>") params body scope (cloFrom X.env.cells scope.names []) pm c' ctv
theorem lam_mk {T : List (Addr × Str)} {c P : Addr} {params : Arguments} {body : Expr} {scope : Scope} {pos : Pos} {E Q : Value → Shared → Prop} (I : Inv X pins σ H s) (TB : TabB X.base X.mg c P) (hcode : X.env.code = .ref c) (hm : (P, X.env.qual ++ "<lambda>") ∈ T)
    (hu : ∀ p ∈ T, p.1 = P → p.2 = X.env.qual ++ "<lambda>") (hT : Tabs T H) (hdef : defaultsOf params X.env = ([], [])) (hfree : ∀ y ∈ scope.names, y.2 = .free → ∃ c, X.env.cells.lookup y.1 = some c)
    (h : ∀ (f c' : Addr) (pm ctv : Value) (H1 : Hp) (s' : Shared), Inv X pins σ H1 s' → LamH T H H1 → Tabs T H1 → s'.heap.get? f = some (lamO X params body scope pm ctv c') → H1 f = none → f ∉ frs X.stack → H1 c' = some (CodeO c' (X.env.qual ++ "<lambda>")) → Q (.ref f) s') :
    wpAny (model X.prog X.w) X.A (eval (.Lambda params body scope pos) X.env) Q E s := by
  have hT0 := hT
  obtain ⟨ps, hP, ht, ha⟩ := hT0 _ hm
  have bP : s.heap.BuiltinsAt X.mg P := TB.bm.keeps I.bk
  have gP : s.heap.get? P = some { cls := .none, data := .fields ps } := I.hok P _ hP
  refine PySem.W.kla_eval hdef ?_
  cases hc : codeAmong pos ps.toList with
  | some cv =>
    obtain ⟨c', e, hco⟩ := ha pos cv hc
    subst e
    refine PySem.W.kla_makeFunctionHit (mg := X.mg) (c := c) (P := P) (ps := ps) (closure_ok hfree) I.ok.glob (I.mod.glob.keeps I.bk) hcode (TB.code.keeps I.bk) gP ht hc bP fun ctv h' tk hx hsz => ?_
    exact h h'.objs.size c' ((X.mg "__name__").getD .none) ctv H _ (I.kept fun b o e => Heap.get?_push_of_some _ (hx b o e)) (.inl rfl) hT (Heap.get?_push_size _ rfl) (I.hok.fresh hsz) (no_frame I hsz) hco
  | none =>
    refine PySem.W.kla_makeFunction (mg := X.mg) (c := c) (P := P) (ps := ps) (closure_ok hfree) I.ok.glob (I.mod.glob.keeps I.bk) hcode (TB.code.keeps I.bk) gP ht hc TB.gP bP fun c' ctv h' tk hx hge hlt hrec htb => ?_
    obtain ⟨_, oc, vs, t, e2, hoc, hd, hv⟩ := hrec
    cases e2
    have nC : H c' = none := I.hok.fresh hge
    have hsz : s.heap.objs.size ≤ h'.objs.size := by omega
    have n1 : h'.objs.size ≠ c' := by omega
    have n2 : h'.objs.size ≠ P := Nat.ne_of_gt (Nat.lt_of_lt_of_le (Heap.lt_size gP) hsz)
    refine h h'.objs.size c' ((X.mg "__name__").getD .none) ctv _ _ (inv_table (t' := tk) (more := #[rawInt pos.line, rawInt pos.col, .ref c']) (h' := h'.push (lamO X params body scope ((X.mg "__name__").getD .none) ctv c')) I hP
      (fun b o hb e => Heap.get?_push_of_some _ (hx b o hb e)) (Heap.get?_push_of_some _ htb) hge ⟨oc, vs, t, Heap.get?_push_of_some _ hoc, hd, hv⟩) (.inr ⟨_, hm, ps, _, c', _, hP, nC, rfl⟩) (tabs_more hT hm hu hP nC) (Heap.get?_push_size _ rfl) ?_ (no_frame I hsz) upd_same
    rw [upd_ne n1, upd_ne n2]
    exact I.hok.fresh hsz
end
/-- the state behind it -/
theorem St.lam [Tbs] {K : PySem.W.Frag} {B : Base} {F : Hp} {ρ : Env} {σ : L2.St} {H H1 : Hp} (S : St K B F ρ σ H) (l : LamH Tbs.T H H1) (t : Tabs Tbs.T H1) : St K B F ρ σ H1 := by
  rcases l with rfl | ⟨p, hp, ps, more, c, q, hP, hc, rfl⟩
  · exact S
  obtain ⟨_, fP, gP⟩ := S.tb p hp
  have fc : F c = none := S.ex.back hc
  have keep : ∀ b o, H b = some o → b ≠ p.1 → upd (upd H p.1 (.tbl (ps ++ more))) c (CodeO c q) b = some o := fun b o e n => by rw [upd_ne (ne_of_none e hc), upd_ne n]; exact e
  refine ⟨(S.ex.upd fP).upd fc, fun a u h => keep a u (S.out a u h) fun z => ?_, S.new, S.ge, (S.thr.upd fun vs z => by cases z).upd fun vs z => ?_, S.len, fun i => ?_, S.own, fun p' hp' => ⟨t p' hp', (S.tb p' hp').2⟩⟩
  · rw [z, gP] at h; cases h
  · unfold CodeO at z; cases z
  · have s := S.sl i
    cases hs : ρ.getD i .un with
    | un => trivial
    | fz d => rw [hs] at s; exact s
    | ow b c' =>
      rw [hs] at s
      obtain ⟨a, e1, ⟨nf, ng, u, hu, hcr⟩, h2, h3⟩ := s
      refine ⟨a, e1, ⟨nf, ng, u, keep a u hu fun z => ?_, hcr⟩, h2, h3⟩
      rw [z, hP] at hu
      cases hu
      exact hcr.noTb (.inl ⟨ps, rfl⟩)
end DL
set_option Elab.async false
set_option linter.all false
set_option maxRecDepth 100000
set_option maxHeartbeats 4000000
/-! DX7: x(lambda: e), x catching what e raises. -/
namespace DL
open PySem L2 Evl PySem.Spec PyProof.Rows LamX
def tLamH (T : List (Addr × Str)) (TT : (XK → Hp → VK → Prop) → Hp → VK → Prop) (t : XK → TE) : TE := fun σ H Q => Tabs T H ∧ ∀ H1, LamH T H H1 → Tabs T H1 → TT (fun E H' Q' => t E σ H' Q') H1 Q
section
variable {X : Cx}
theorem pe_lamH {T : List (Addr × Str)} {TT : (XK → Hp → VK → Prop) → Hp → VK → Prop} {x a : Str} {g c P : Addr} {k : Nat} {pg : Arguments} {bg : List Stmt} {sg : Scope} {dV kV doc pm cdv ct oc : Value} {an od : Option Addr} {osl : Array (Option Value)} {Ng : List Str}
    {params : Arguments} {body : Expr} {scope : Scope} {t : XK → TE} {p lpos pos : Pos} (hg : Gl X x) (hm : X.mg x = some (.ref g)) (hk : PySem.W.keepIn X.K (.ref g) = true) (lk : X.K.lookup g = some ⟨oc, od, .func (PySem.W.fnOf x x pg bg sg dV kV doc pm an cdv ct), osl⟩)
    (hcg : PySem.W.codeIn X.K cdv x = true) (hb : L2.Binds X.K (PySem.W.fnOf x x pg bg sg dV kV doc pm an cdv ct) [a] []) (Sg : FnScope Ng [a] sg) (hNg : Ng[0]? = some a) (hva : Vis sg a)
    (hG : GivesTo X Ng x sg g cdv bg a (X.env.qual ++ "<lambda>") TT) (TB : TabB X.base X.mg c P) (hcode : X.env.code = .ref c) (hmT : (P, X.env.qual ++ "<lambda>") ∈ T) (hu : ∀ p ∈ T, p.1 = P → p.2 = X.env.qual ++ "<lambda>")
    (hr : Room (k + 2) X.A) (L : LamS X.env.scope scope) (hdef : defaultsOf params X.env = ([], [])) (hbind : ∀ (q : Str) (cl : List (Str × Addr)) (pm cv ctv : Value), bindArgs (PySem.W.kla_fn "<lambda>" q params body scope cl pm cv ctv) ⟨[], []⟩ = pure [])
    (hbody : ∀ (A : Around) (outer : List PySem.Env) (s : Shared) (H : Hp) (E : XK) (f c' : Addr), Room k (A.deeper (lamEnv X scope s.heap.objs.size f c')) → PE (lamCx X A outer s H E scope f c') body (t E))
    (hdb : (x == ("__debug__" : Str)) = false := by decide) (hd : (a == ("__debug__" : Str)) = false := by decide) (hcd : (a == ("__classdict__" : Str)) = false := by decide) :
    PE X (.Call (.Name x p) [.Lambda params body scope lpos] [] pos) (tLamH T TT t) := by
  refine ⟨fun pins s σ H Q I ⟨hT, h⟩ => wpAny_Call_Name_kw (ld_glob I hg hm (PySem.W.callWith_K (h₀ := X.base) I.ok.mod.kin hk ?_ (by rfl) (by rfl)) hdb)⟩
  show wpAny _ _ (spliced ((false, eval (.Lambda params body scope lpos) X.env) :: backTo pos (starEach [] X.env))) _ _ s
  refine Calls.spliced_cons (lam_mk I TB hcode hmT hu hT hdef (L.has I.ok) fun f c' pm' ctv H1 s' I1 lH T1 hf hfn hfr hco => Calls.spliced_nil ⟨I1.kIn, ?_⟩)
  have go := run_ofS (CX := C8.CX0) (E := C8.E0) (Q := Q) (N := Ng) (ps := [a]) (us := [.ref f]) (vs := [.ref f]) lk hcg Sg hr I1.env0 (hb s' [.ref f] I1.kIn rfl) (.cons rfl .nil) rfl fun hr' => by
    obtain ⟨t', ht', hq'⟩ := hG f c' s' H1 Q (fun E H' Q' => t E σ H' Q') (fun W pn xe E p1 p2 tk hW => pe_act (i := 0) I1 L hf hfn hfr (hbind _ _ _ _ _) tk hW hr' (fun A outer s H hr2 => hbody A outer s H E f c' hr2) hNg hva hd hcd) hco (h H1 lH T1)
    exact ⟨t', ht'.nox, hq'⟩
  refine wpAny_call (codeAny_mono go fun r s2 hq => ?_)
  match r, hq with
  | .ok (.ret u), hq => exact I1.after hq
/-- a clause: its class, what its suite gives back: of the exception's address, class, dict -/
abbrev Hc := Value × (Addr → Value → Option Addr → TE)
def clsOf (i : Nat) (l : List Hc) : List Cl := l.map fun p => (p.1, i, fun a c d D σ H => p.2 a c d σ H D.rt)
/-- what is asked when the lambda raised -/
def hE (K : PySem.W.Frag) (n i : Nat) : List Hc → Value → Option Addr → Hp → VK → Prop
  | [], _, _, _, _ => False
  | (c, te) :: r, cls, d, H, Q => ∃ b, PySem.W.exmOne K cls c = some b ∧ (b = true → ∀ a, H a = none → ∀ σ : L2.St, σ.length = n → te a cls d (σ.set i (some (.ref a))) H Q) ∧ (b = false → hE K n i r cls d H Q)
theorem hE_w {K : PySem.W.Frag} {n i : Nat} {Q : VK} {σ : L2.St} {D : Ends} (hD : D.rt = Q) (hn : σ.length = n) : ∀ {l : List Hc} {cls : Value} {d : Option Addr} {H : Hp}, hE K n i l cls d H Q → wCls K (fun _ _ _ _ => False) D (clsOf i l) cls d σ H
  | [], _, _, _, h => h.elim
  | (c, te) :: r, cls, d, H, ⟨b, h1, h2, h3⟩ => ⟨b, h1, fun hb a ha => by
      show te a cls d (σ.set i (some (.ref a))) H (offE i D).rt
      rw [show (offE i D).rt = Q from hD]
      exact h2 hb a ha σ hn, fun hb => hE_w hD hn (h3 hb)⟩
/-- try: return (told, a()) / except ..: return .. -/
def tTold (K : PySem.W.Frag) (n i : Nat) (told : Str) (l : List Hc) : (XK → Hp → VK → Prop) → Hp → VK → Prop := fun tl H Q =>
  tl (fun cls d H' => hE K n i l cls d H' Q) H fun v H2 => [V.str told, v].length ≤ sizeLine ∧ ∀ p, H2 p = none → Q (.ref p) (upd H2 p (.tup [.str told, v]))
/-- the same wish, where a frame is as long as it is -/
theorem Takes.len {X : Cx} {W : WX} (t : Takes X W) : Takes X (fun cls d σ H => σ.length = X.N.length → W cls d σ H) := fun u s' ⟨a, B, sI, pins, σ, H, cls, d, e, I, nb, up, sky, na, os, ag, w⟩ => t u s' ⟨a, B, sI, pins, σ, H, cls, d, e, I, nb, up, sky, na, os, ag, w I.len⟩
theorem gives_told {Ng : List Str} {x a q told : Str} {sg : Scope} {g : Addr} {cdg : Value} {i j k1 : Nat} {h0 : ExceptHandler} {hds : List ExceptHandler} {l : List Hc} {p1 p2 p3 p4 p5 p8 : Pos} (hN : Ng.Nodup) (h0' : ∀ f : Addr, (L2.start Ng [V.ref f])[0]? = some (some (V.ref f)))
    (hcl : ∀ (s : Shared) (H : Hp), ClsOk (cxOf C8.CX0 X.prog X.w X.K X.mg X.base Ng x sg g cdg X.A X.stack s H C8.E0).nox (h0 :: hds) (clsOf i l)) :
    GivesTo X Ng x sg g cdg [.Try [.Return (some (.Tuple [.Constant (.str told) j p5, .Call (.Name a p1) [] [] p2] k1 p4)) p3] (h0 :: hds) [] [] p8] a q (tTold X.K Ng.length i told l) := by
  intro f c' s H Q tl act hc h
  refine ⟨_, pss_one (ps_tryAs (X := (cxOf C8.CX0 X.prog X.w X.K X.mg X.base Ng x sg g cdg X.A X.stack s H C8.E0).nox) (Wo := fun _ _ _ _ => False) (l := clsOf i l)
    (tb := fun W D σ H => ∃ Ech : XK, (∀ cls d σ' H', σ'.length = Ng.length → Ech cls d H' → W cls d σ' H') ∧ σ[0]? = some (some (.ref f)) ∧ H c' = some (CodeO c' q) ∧ tl Ech H fun v H2 => [V.str told, v].length ≤ sizeLine ∧ ∀ p, H2 p = none → D.rt (.ref p) (upd H2 p (.tup [.str told, v])))
    rfl rfl hN LamX.takes0 (fun W pn xe tk _ => ?_) (hcl s H)), ?_⟩
  · refine ⟨fun pins s' σ H' D I ⟨Ech, hW, h1, h2, h3⟩ => ?_⟩
    have hp := act (fun cls d σ' H' => σ'.length = Ng.length → W cls d σ' H') pn xe Ech p1 p2 (Takes.len tk) fun cls d σ' H' e hl => hW cls d σ' H' hl e
    exact (pss_one (ps_ret (pos := p3) (pe_tup (x1 := k1) (pos := p4) (pa_cons (pe_str (j := j) (pos := p5)) (pa_cons hp pa_nil))))).run pins s' σ H' D I ⟨h1, h2, h3⟩
  · exact ⟨fun cls d H' => hE X.K Ng.length i l cls d H' Q, fun cls d σ' H' hl e => hE_w rfl hl e, h0' f, hc, h⟩
end
end DL
set_option Elab.async false
set_option linter.all false
set_option maxRecDepth 100000
set_option maxHeartbeats 4000000
/-! DX8: the same at data level. -/
namespace DL
open PySem L2 Evl PySem.Spec PyProof.Rows LamX
variable [Tbs]
open Classical in
/-- the ground of a frame to which nothing is lent -/
noncomputable def base0 (F H : Hp) (σ : L2.St) : Base := ⟨fun a => if isTab a then none else H a, F, H, σ⟩
section
variable {K : PySem.W.Frag} {B : Base} {F F' : Hp} {ρ ρh : Env} {σ σh : L2.St} {H H' : Hp}
theorem St.enter0 (S : St K B F ρ σ H) (hl : σh.length = ρh.length) (hs : ∀ i, ρh.getD i .un = .un ∨ ∃ d v, ρh.getD i .un = .fz d ∧ σh[i]? = some (some v) ∧ Rep K F v d) : St K (base0 F H σh) F ρh σh H := by
  have no : ∀ i, isOw (ρh.getD i .un) ≠ true := fun i z => by
    rcases hs i with e | ⟨d, v, e, _⟩ <;> (rw [e] at z; cases z)
  refine ⟨S.ex, fun a u h => ?_, fun a h => .inl h, Ex.refl _, Thr.refl _, hl, fun i => ?_, fun i j a h1 => absurd h1 (no i), fun p hp => ⟨(S.tb p hp).1, (S.tb p hp).2.1, if_pos ⟨p, hp, rfl⟩⟩⟩
  · unfold base0 at h
    dsimp only at h
    split at h
    · cases h
    · exact h
  · rcases hs i with e | ⟨d, v, e, e1, r⟩
    · rw [e]; trivial
    · rw [e]; exact ⟨v, e1, r⟩
theorem St.leave0 (S : St K B F ρ σ H) (e : Ex F F') (S' : St K (base0 F H σh) F' ρh σh H') : St K B F' ρ σ H' := by
  have nl : ∀ a, ¬ Lent σ [] a := fun a ⟨i, j, h, _⟩ => by simp at h
  have S2 : St K (callee F H σ [] []) F' [] (([] : List V).map some) H' := by
    refine ⟨S'.ex, fun a u h => S'.out a u ?_, S'.new, S'.ge, S'.thr, rfl, fun i => trivial, fun i j a h1 => (by cases h1), fun p hp => ⟨(S'.tb p hp).1, (S'.tb p hp).2.1, callee_Gt ⟨p, hp, rfl⟩⟩⟩
    by_cases q : isTab a
    · rw [callee_Gt q] at h; cases h
    · rw [callee_G (nl a) q] at h
      exact (if_neg q).trans h
  exact S.leave (as := []) (vs := []) trivial rfl e S2
end
/-- a clause: its class; which classes it takes; what it gives back -/
abbrev Dc := Value × List (Addr × Bool) × (Addr → Value → Option Addr → DE)
def hD (n i : Nat) : List Dc → Exn → (D → Prop) → Prop
  | [], _, _ => False
  | (_, tb, de) :: r, x, k => ∃ b, (x.C, b) ∈ tb ∧ (b = true → ∀ a dd, de a (.ref x.C) (some dd) ((List.replicate n .un).set i (.fz (.exn a dd x.C x.f x.d))) (fun _ _ => False) fun d _ => k d) ∧ (b = false → hD n i r x k)
/-- x(lambda: e) where x says: try: return (told, a()); .. -/
def eHeard (told : Str) (n i : Nat) (l : List Dc) (de : DE) : DE := fun ρ X K => de ρ (fun x ρ1 => hD n i l x fun d => K d ρ1) fun d ρ1 => K (.tuple [.str told, d]) ρ1
theorem hD.imp {n i : Nat} {x : Exn} {k k' : D → Prop} (h : ∀ d, k d → k' d) : ∀ {l : List Dc}, (∀ p ∈ l, ∀ a c d, MonoE (p.2.2 a c d)) → hD n i l x k → hD n i l x k'
  | [], _, q => q.elim
  | p :: r, m, ⟨b, h1, h2, h3⟩ => ⟨b, h1, fun hb a dd => (m p (.head _) _ _ _).go (fun _ _ z => z) (fun _ _ z => h _ z) (h2 hb a dd), fun hb => hD.imp h (fun p hp => m p (.tail _ hp)) (h3 hb)⟩
theorem mono_eHeard {told : Str} {n i : Nat} {l : List Dc} {de : DE} (m : MonoE de) (ml : ∀ p ∈ l, ∀ a c d, MonoE (p.2.2 a c d)) : MonoE (eHeard told n i l de) := ⟨fun hx hk h => m.go (fun x ρ q => hD.imp (fun d q => hk _ _ q) ml q) (fun d ρ q => hk _ _ q) h⟩
def WN : WX := fun _ _ _ _ => False
def hcOf (K : PySem.W.Frag) (l : List Dc) : List Hc := l.map fun p => (p.1, fun a c d => liftE K WN (p.2.2 a c d))
/-- the classes are taken as told -/
def TbE (K : PySem.W.Frag) (l : List Dc) : Prop := ∀ p ∈ l, ∀ q ∈ p.2.1, PySem.W.exmOne K (.ref q.1) p.1 = some q.2
theorem hD_hE {K : PySem.W.Frag} {B : Base} {F F' : Hp} {ρ : Env} {σ : L2.St} {H' : Hp} {n i : Nat} {x : Exn} {dd : Addr} {v : V} {Q : VK} (e : Ex F F') (S : St K B F' ρ σ H') (h1 : F' dd = some (.xd [(x.f, v)])) (r : Rep K F' v x.d) :
    ∀ {l : List Dc}, TbE K l → (∀ p ∈ l, ∀ a c d, MonoE (p.2.2 a c d)) → hD n i l x (fun d => ∀ v F' H', Ex F F' → St K B F' ρ σ H' → Rep K F' v d → Q v H') → hE K n i (hcOf K l) (.ref x.C) (some dd) H' Q
  | [], _, _, q => q.elim
  | p :: l, t, m, ⟨b, h2, h3, h4⟩ => by
    refine ⟨b, t p (.head _) _ h2, fun hb a ha σ' hl => ?_, fun hb => hD_hE e S h1 r (fun p hp => t p (.tail _ hp)) (fun p hp => m p (.tail _ hp)) (h4 hb)⟩
    refine ⟨base0 F' H' (σ'.set i (some (.ref a))), F', _, S.enter0 (by simp [hl]) fun j => ?_, (m p (.head _) _ _ _).go (fun _ _ z => z.elim) (fun d ρ1 z v F2 H2 e2 S2 r2 => z v F2 H2 (e.trans e2) (S.leave0 e2 S2) r2) (h3 hb a dd)⟩
    by_cases q : i = j
    · subst q
      by_cases hi : i < n
      · exact .inr ⟨_, .ref a, getD_set_self (by simpa using hi), List.getElem?_set_self (by omega), .exn h1 r⟩
      · refine .inl ?_
        rw [List.set_eq_of_length_le (by simp; omega), List.getD, List.getElem?_replicate, if_neg hi]
        rfl
    · refine .inl ?_
      rw [getD_set_ne q, List.getD, List.getElem?_replicate]
      split <;> rfl
section
variable {X : Cx}
theorem heardT {K : PySem.W.Frag} {W : WX} {told : Str} {n i : Nat} {l : List Dc} {de : DE} {σ : L2.St} {H : Hp} {Q : VK} (m : MonoE de) (t : TbE K l) (ml : ∀ p ∈ l, ∀ a c d, MonoE (p.2.2 a c d)) (h : liftE K W (eHeard told n i l de) σ H Q) :
    tLamH Tbs.T (tTold K n i told (hcOf K l)) (fun E => liftE K (fun cls d _ H => E cls d H) de) σ H Q := by
  obtain ⟨B, F, ρ, S, h⟩ := h
  refine ⟨fun p hp => (S.tb p hp).1, fun H1 lH T1 => ⟨B, F, ρ, S.lam lH T1, m.go (fun x ρ1 q F' H' dd v e S' h1 r => ?_) (fun d ρ1 q v F1 H2 e1 S1 r1 => ⟨show 2 ≤ sizeLine by decide, fun p hp => ?_⟩) h⟩⟩
  · exact hD_hE e S' h1 r t ml q
  · obtain ⟨e2, S2⟩ := S1.alloc (o := .tup [.str told, v]) hp
    exact q _ _ _ (e1.trans e2) S2 (.tup upd_same (.cons (.str told) (.cons (r1.mono e2) .nil)))
/-- the exception's field -/
def eXf (a : Addr) (cls : Value) (d : Option Addr) (C : Addr) (f : Str) (de : DE) : DE := fun ρ X K => de ρ X fun r ρ1 => ∃ dd v, r = .exn a dd C f v ∧ cls = .ref C ∧ d = some dd ∧ K v ρ1
theorem mono_eXf {a : Addr} {cls : Value} {d : Option Addr} {C : Addr} {f : Str} {de : DE} (m : MonoE de) : MonoE (eXf a cls d C f de) := ⟨fun hx hk h => m.go hx (fun r ρ ⟨dd, v, e1, e2, e3, q⟩ => ⟨dd, v, e1, e2, e3, hk _ _ q⟩) h⟩
theorem pd_xf {W : WX} {a C : Addr} {oe : Obj} {cls : Value} {d : Option Addr} {pn : List (Addr × Obj)} {e : Expr} {de : DE} {pos : Pos} {f : Str} (T : XfC X.K C) (hno : PySem.W.findIn X.K (.ref C) f = some none) (hz : Zc cls d oe) (hf : ∃ vs, oe.data = .fields vs)
    (he : PD (X.suite a ((a, oe) :: pn)) W e de) (hb : attributeBase e f X.env (eval e X.env) = eval e X.env := by rfl) : PD (X.suite a ((a, oe) :: pn)) W (.Attribute e f pos) (eXf a cls d C f de) :=
  ⟨mono_eXf he.mono, PE.imp (pe_xf T hno hz hf he.run hb) fun σ H Q ⟨B, F, ρ, S, h⟩ => liftE.of he.mono (Ex.refl _) S h fun r ρ1 ⟨dd, v, er, ec, ed, q⟩ u F1 H1 e1 S1 r1 => by
    subst er
    obtain ⟨eu, w, h2, r2⟩ := r1.exn_inv
    exact ⟨eu, ec, dd, [(f, w)], w, ed, S1.ex.on h2, by simp [List.lookup], q w F1 H1 e1 S1 r2⟩⟩
end
end DL
set_option Elab.async false
set_option linter.all false
set_option maxRecDepth 100000
set_option maxHeartbeats 2000000
/-! DX9: the words for the generator: raise, x(lambda: e), repr in a suite, sum. -/
namespace DL
open PySem L2 Evl PySem.Spec PyProof.Rows LamX
variable [Tbs]
/-- what the head tells of an own exception class -/
structure RaisK (P : Program) (K : PySem.W.Frag) (mg : Str → Option Value) (x : Str) (C : Addr) (B nid iid : String) (tl : List Value) (f : Str) : Prop where
  b : XBase B nid iid tl
  t : ExcK K C B nid tl
  m : mg x = some (.ref C)
  xf : XfC K C
  no : PySem.W.findIn K (.ref C) f = some none
  ini : ∃ fI fd sf ar txt, PySem.W.findIn K (.ref C) "__init__" = some (some (.ref fI)) ∧ PySem.W.typeIn K (.ref fI) = some (.type "function") ∧ IniK P K mg C iid fI fd sf ar f txt ∧
    (sf ≠ ar ∧ (sf == ("__debug__" : Str)) = false ∧ (ar == ("__debug__" : Str)) = false ∧ (sf == ("__classdict__" : Str)) = false ∧ (ar == ("__classdict__" : Str)) = false) ∧ Binds K fd [sf, ar] []
section
variable {X : Cx} {W : WX} {e : Expr} {de : DE}
theorem pds_raiseK {B nid iid : String} {tl : List Value} {x f : Str} {C : Addr} {k : Nat} {p pos pos' : Pos} (R : RaisK X.prog X.K X.mg x C B nid iid tl f) (hr : Room k X.A) (h2 : 2 ≤ k) (hg : Gl X x) (hc : X.calm = true) (tk : Takes X W) (he : PD X W e de)
    (hdb : (x == ("__debug__" : Str)) = false := by decide) (hs : starEach [e] X.env = [(false, eval e X.env)] := by rfl) : PDS X W (.Raise (some (.Call (.Name x p) [e] [] pos)) none pos') (dRaise C f de) := by
  obtain ⟨fI, fd, sf, ar, txt, h1, h3, h4, ⟨n1, n2, n3, n4, n5⟩, h5⟩ := R.ini
  exact pds_raise R.b R.t h1 h3 (init_ok (k := 0) R.b R.t h4 n1 n2 n3 n4 n5) (hr.mono h2) h5 hg R.m hc tk he hdb hs
/-- repr, whatever is handled -/
theorem call_reprU (hg : X.A.guards = some []) (hu : X.A.units + 64 < cLine) : CallR X (.builtin "repr") (rRepr X.K) := by
  intro pins s σ H xs us Q I r h
  obtain ⟨x, d, rfl, dp, hs, hd, hz, hl, q⟩ := h
  obtain ⟨u, rfl, rx⟩ := vals1 r
  cases dp with
  | non => cases (show u = Value.none from rx); exact PySem.P.repr_of_none ⟨.str _, H, I.tok _, ⟨_, rfl⟩, q⟩
  | bl b => cases (show u = Value.bool b from rx); exact PySem.P.repr_of_bool ⟨.str _, H, I.tok _, ⟨_, rfl⟩, q⟩
  | int i => obtain ⟨t, rfl⟩ := rx; exact PySem.P.repr_of_int (by simpa [PyData.showable] using hs) ⟨.str _, H, I.tok _, ⟨_, rfl⟩, q⟩
  | str y => obtain ⟨t, rfl⟩ := rx; exact PySem.P.repr_of_str (hsz := hl) ⟨.str _, H, I.tok _, ⟨_, rfl⟩, q⟩
  | lst h1 h2 =>
    obtain ⟨as, rd⟩ := Dp.reads I _ _ _ (.lst h1 h2) rx
    cases (show u = Value.ref _ from rx)
    exact PySem.repr_of_reads' (hsz := hl) rd hs (PyData.noDict_hsm hd) hg (by omega) (fun _ _ e => e) fun h' u tk hk => ⟨.str _, H, (I.kept (h' := h') (t' := tk) hk), ⟨_, rfl⟩, q⟩
  | tup h1 h2 =>
    obtain ⟨as, rd⟩ := Dp.reads I _ _ _ (.tup h1 h2) rx
    cases (show u = Value.ref _ from rx)
    exact PySem.repr_of_reads' (hsz := hl) rd hs (PyData.noDict_hsm hd) hg (by omega) (fun _ _ e => e) fun h' u tk hk => ⟨.str _, H, (I.kept (h' := h') (t' := tk) hk), ⟨_, rfl⟩, q⟩
/-- x(lambda: e) where x says: try: return (told, a()) / except ..: return .. -/
theorem pd_heardK {x a told : Str} {g c Pt : Addr} {fd : FuncData} {k : Nat} {pg : Arguments} {sg : Scope} {Ng : List Str} {params : Arguments} {body : Expr} {scope : Scope} {p lpos pos : Pos} {i j k1 : Nat} {h0 : ExceptHandler} {hds : List ExceptHandler} {l : List Dc} {p1 p2 p3 p4 p5 p8 : Pos}
    (F : FunD X.K x x pg [.Try [.Return (some (.Tuple [.Constant (.str told) j p5, .Call (.Name a p1) [] [] p2] k1 p4)) p3] (h0 :: hds) [] [] p8] sg [] [] g fd) (hb : L2.Binds X.K fd [a] []) (hg : Gl X x) (hm : X.mg x = some (.ref g)) (Sg : FnScope Ng [a] sg) (hN0 : Ng[0]? = some a) (hva : Vis sg a)
    (h0' : ∀ f : Addr, (L2.start Ng [V.ref f])[0]? = some (some (V.ref f))) (t : TbE X.K l) (ml : ∀ p ∈ l, ∀ a c d, MonoE (p.2.2 a c d))
    (hcl : ∀ (cdg : Value) (s : Shared) (H : Hp), Room (k + 1) ((X.A.deeper (envOfC x sg s.heap.objs.size g cdg))) → ClsOk (cxOf C8.CX0 X.prog X.w X.K X.mg X.base Ng x sg g cdg X.A X.stack s H C8.E0).nox (h0 :: hds) (clsOf i (hcOf X.K l)))
    (TB : TabB X.base X.mg c Pt) (hcode : X.env.code = .ref c) (hmT : (Pt, X.env.qual ++ "<lambda>") ∈ Tbs.T) (hu : ∀ p ∈ Tbs.T, p.1 = Pt → p.2 = X.env.qual ++ "<lambda>") (hr : Room (k + 2) X.A) (L : LamS X.env.scope scope) (hdef : defaultsOf params X.env = ([], []))
    (hbind : ∀ (q : Str) (cl : List (Str × Addr)) (pm cv ctv : Value), bindArgs (PySem.W.kla_fn "<lambda>" q params body scope cl pm cv ctv) ⟨[], []⟩ = pure [])
    (hbody : ∀ (A : Around) (outer : List PySem.Env) (s : Shared) (H : Hp) (E : XK) (f c' : Addr), Room k (A.deeper (lamEnv X scope s.heap.objs.size f c')) → PD (lamCx X A outer s H E scope f c') (fun cls d _ H => E cls d H) body de)
    (hdb : (x == ("__debug__" : Str)) = false := by decide) (hd : (a == ("__debug__" : Str)) = false := by decide) (hcd : (a == ("__classdict__" : Str)) = false := by decide) :
    PD X W (.Call (.Name x p) [.Lambda params body scope lpos] [] pos) (eHeard told Ng.length i l de) := by
  have kp := F.kp
  have mde : MonoE de := (hbody (X.A.deeper X.env) [] X.s_0 (fun _ => none) (fun _ _ _ => False) 0 0 ((hr.deeper _).deeper _)).mono
  obtain ⟨oc, od, dV, kV, doc, pm, an, cdv, ct, osl, rfl, lk, hcg, _, _⟩ := F.ex
  refine ⟨mono_eHeard mde ml, PE.imp (pe_lamH hg hm kp lk hcg hb Sg hN0 hva (fun f c' s H Q tl act hc h => gives_told Sg.nd h0' (fun s H => hcl cdv s H (hr.deeper _)) f c' s H Q tl act hc h) TB hcode hmT hu hr L hdef hbind (fun A outer s H E f c' h => (hbody A outer s H E f c' h).run) hdb hd hcd) fun σ H Q h => heardT mde t ml h⟩
end
def fSum : DB
  | [.list xs], P => ofS (asInts xs) fun ns => P (.int ns.sum)
  | _, _ => False
theorem rc_sum {K : PySem.W.Frag} : RCall K (rSum K) fSum := by
  refine ⟨fun {xs P P'} hp h => ?_, fun {B F ρ σ H vs xs Q P} S r h k => ?_⟩
  · unfold fSum at h ⊢
    split at h
    · exact ofS.mono (fun ns h => hp _ h) h
    · exact h.elim
  · unfold fSum at h
    split at h
    · obtain ⟨ns, e, h⟩ := ofS.eq h
      rw [asInts_eq e] at r
      obtain ⟨v, rfl, r1⟩ := r.one
      obtain ⟨a, ws, rfl, ha, r3⟩ := r1.list_inv
      rw [r3.ints] at ha
      exact ⟨a, ns, rfl, .inl (.inl (S.ex.on ha)), k _ h _ F H (Ex.refl _) S (.int _)⟩
    · exact h.elim
end DL
set_option Elab.async false
set_option linter.all false
set_option maxRecDepth 100000
set_option maxHeartbeats 2000000
/-! DX10: bodies that make lambdas; clauses. -/
namespace DL
open PySem L2 Evl PySem.Spec PyProof.Rows LamX
variable [Tbs]
/-- the code object of the def at f -/
def CodeAt (K : PySem.W.Frag) (f c : Addr) : Prop := ∀ oc od fd osl, K.lookup f = some ⟨oc, od, .func fd, osl⟩ → fd.code = .ref c
theorem okG_ofC {CX : CXT} {P : Program} {w : World} {K : PySem.W.Frag} {mg : Str → Option Value} {base : Heap} {x qual : Str} {params : Arguments} {body : List Stmt} {scope : Scope} {dvs : List V} {kws : List (Str × V)} {f c : Addr} {fd : FuncData} {N ps : List Str} {k : Nat} {sp : Sp} (F : FunD K x qual params body scope dvs kws f fd) (hc : CodeAt K f c) (S : FnScope N ps scope) (len : ∀ vs H Q E, sp vs H Q E → vs.length = ps.length)
    (hbody : ∀ (A : Around) (outer : List PySem.Env) (s : Shared) (H : Hp) (vs : List V) (Q : VK) (E : XK), (A.deeper (envOfC qual scope s.heap.objs.size f (.ref c))).guards = some [] → Room k (A.deeper (envOfC qual scope s.heap.objs.size f (.ref c))) → sp vs H Q E →
      ∃ t, PSs (cxOf CX P w K mg base N qual scope f (.ref c) A outer s H E) body t ∧ t { nx := fun _ H' => Q .non H', rt := Q } (start N vs) H) : FnOkG P w K mg base CX (k + 1) f fd ps sp := by
  obtain ⟨oc, od, dV, kV, doc, pm, an, cdv, ct, osl, rfl, lk, hcd, _, _⟩ := F.ex
  obtain rfl : cdv = .ref c := hc _ _ _ _ lk
  exact fnG_of lk hcd S len fun A outer s H vs Q E hgd hr hsp => hbody A outer s H vs Q E hgd hr hsp
theorem clsNil {X : Cx} {i : Nat} : ClsOk X [] (clsOf i (hcOf X.K [])) := .nil
theorem clsCons {X : Cx} {i : Nat} {x n : Str} {c : Value} {tb : List (Addr × Bool)} {e : Expr} {de : Addr → Value → Option Addr → DE} {p1 p2 p3 : Pos} {hds : List ExceptHandler} {l : List Dc} (hc : Names X x c) (hi : X.N[i]? = some n) (hl : X.env.kindOf n = some .local)
    (h : ∀ (a : Addr) (oe : Obj) (cls : Value) (d : Option Addr) (pn : List (Addr × Obj)), Zc cls d oe → (∃ vs, oe.data = .fields vs) → PD (X.suite a ((a, oe) :: pn)) WN e (de a cls d)) (r : ClsOk X hds (clsOf i (hcOf X.K l))) :
    ClsOk X (.ExceptHandler (some (.Name x p1)) (some n) [.Return (some e) p3] p2 :: hds) (clsOf i (hcOf X.K ((c, tb, de) :: l))) :=
  .cons hc hi hl (fun a oe cls d pn hz hf => pss_one (ps_ret (h a oe cls d pn hz hf).run)) r
theorem pdLam {X : Cx} {A : Around} {outer : List PySem.Env} {s : Shared} {H : Hp} {E : XK} {scope : Scope} {f c' : Addr} {body : Expr} {de : DE} (h : Takes (lamCx X A outer s H E scope f c') (fun cls d _ H => E cls d H) → PD (lamCx X A outer s H E scope f c') (fun cls d _ H => E cls d H) body de) :
    PD (lamCx X A outer s H E scope f c') (fun cls d _ H => E cls d H) body de := h (takes_of rfl rfl rfl rfl)
theorem mono_varF {i : Nat} : MonoE (eVarF i) := ⟨fun {ρ} _ _ _ _ hx hk h => by
  unfold eVarF at h ⊢
  split at h
  · exact hk _ _ h
  · exact hk _ _ h
  · exact h.elim⟩
theorem ml_nil : ∀ p ∈ ([] : List Dc), ∀ a c d, MonoE (p.2.2 a c d) := fun p hp => by cases hp
theorem ml_cons {q : Dc} {l : List Dc} (h : ∀ a c d, MonoE (q.2.2 a c d)) (r : ∀ p ∈ l, ∀ a c d, MonoE (p.2.2 a c d)) : ∀ p ∈ q :: l, ∀ a c d, MonoE (p.2.2 a c d) := fun p hp => by
  rcases List.mem_cons.mp hp with rfl | hp
  · exact h
  · exact r p hp
theorem one_tab {T : List (Addr × Str)} {P : Addr} {q : Str} (h : T = [(P, q)]) : (P, q) ∈ T ∧ ∀ p ∈ T, p.1 = P → p.2 = q := by
  subst h
  exact ⟨.head _, fun p hp _ => by rw [List.mem_singleton.mp hp]⟩
end DL
set_option Elab.async false
set_option linter.all false
set_option maxRecDepth 100000
set_option maxHeartbeats 2000000
/-! DX11: list(range(..)). -/
namespace DL
open PySem L2 Evl PySem.Spec PyProof.Rows LamX
variable [Tbs]
def rgD (i j : Int) : List D := (List.range (j - i).toNat).map fun k => .int (i + (k : Nat))
theorem rgD_reps {K : PySem.W.Frag} {F : Hp} (i j : Int) : Reps K F (rgV i j) (rgD i j) := by
  unfold rgV rgD
  generalize (j - i).toNat = n
  generalize List.range n = l
  induction l with
  | nil => exact .nil
  | cons a l ih => exact .cons (.int _) ih
def asI : D → (Int → Prop) → Prop
  | .int i, k => k i
  | _, _ => False
theorem asI.eq {d : D} {k : Int → Prop} (h : asI d k) : ∃ i, d = .int i ∧ k i := by
  cases d <;> first | exact ⟨_, rfl, h⟩ | exact h.elim
def eLr1 (da : DE) : DE := fun ρ X K => da ρ X fun x ρ1 => asI x fun j => RgOk 0 j ∧ K (.list (rgD 0 j)) ρ1
def eLr2 (da db : DE) : DE := fun ρ X K => da ρ X fun x ρ1 => db ρ1 X fun y ρ2 => asI x fun i => asI y fun j => RgOk i j ∧ K (.list (rgD i j)) ρ2
section
variable {X : Cx} {W : WX} {a b : Expr} {da db : DE} {p p2 pos pos2 : Pos}
theorem lstT {F : Hp} {K : PySem.W.Frag} {B : Base} {ρ : Env} {σ : L2.St} {H : Hp} {i j : Int} {Q : VK} (S : St K B F ρ σ H) (q : ∀ v F' H', Ex F F' → St K B F' ρ σ H' → Rep K F' v (.list (rgD i j)) → Q v H') (p : Addr) (hp : H p = none) : Q (.ref p) (upd H p (.lst (rgV i j))) := by
  obtain ⟨e2, S2⟩ := S.alloc (o := .lst (rgV i j)) hp
  exact q _ _ _ e2 S2 (.lst upd_same (rgD_reps i j))
theorem pd_lr1 (hc : X.calm = true) (hg : Gl X "list") (hm : X.mg "list" = none) (hg2 : Gl X "range") (hm2 : X.mg "range" = none) (ha : PD X W a da) (na : starEach [a] X.env = (false, eval a X.env) :: starEach [] X.env := by rfl) : PD X W (.Call (.Name "list" p) [.Call (.Name "range" p2) [a] [] pos2] [] pos) (eLr1 da) :=
  ⟨⟨fun hx hk h => ha.mono.go hx (fun x ρ h1 => by obtain ⟨j, e1, h2⟩ := asI.eq h1; subst e1; exact ⟨h2.1, hk _ _ h2.2⟩) h⟩, PE.imp (pe_listRg hc hg hm (prg_1 hg2 hm2 ha.run na)) fun σ H Q ⟨B, F, ρ, S, h⟩ => liftE.of ha.mono (Ex.refl _) S h fun x ρ1 h1 v F1 H1 e1 S1 r1 => by
    obtain ⟨j, e2, h2, h3⟩ := asI.eq h1
    subst e2
    exact ⟨j, r1.int_inv, h2, fun q hq => lstT S1 (fun v F' H' e S' r => h3 v F' H' (e1.trans e) S' r) q hq⟩⟩
theorem pd_lr2 (hc : X.calm = true) (hg : Gl X "list") (hm : X.mg "list" = none) (hg2 : Gl X "range") (hm2 : X.mg "range" = none) (ha : PD X W a da) (hb : PD X W b db) (na : starEach [a, b] X.env = (false, eval a X.env) :: starEach [b] X.env := by rfl) (nb : starEach [b] X.env = (false, eval b X.env) :: starEach [] X.env := by rfl) :
    PD X W (.Call (.Name "list" p) [.Call (.Name "range" p2) [a, b] [] pos2] [] pos) (eLr2 da db) :=
  ⟨⟨fun hx hk h => ha.mono.go hx (fun x ρ h1 => hb.mono.go hx (fun y ρ h2 => by
      obtain ⟨i, e1, h3⟩ := asI.eq h2
      obtain ⟨j, e2, h4⟩ := asI.eq h3
      subst e1 e2
      exact ⟨h4.1, hk _ _ h4.2⟩) h1) h⟩, PE.imp (pe_listRg hc hg hm (prg_2 hg2 hm2 ha.run hb.run na nb (by rw [nb] <;> rfl))) fun σ H Q ⟨B, F, ρ, S, h⟩ => liftE.of ha.mono (Ex.refl _) S h fun x ρ1 h1 v F1 H1 e1 S1 r1 => liftE.of hb.mono e1 S1 h1 fun y ρ2 h2 w F2 H2 e2 S2 r2 => by
    obtain ⟨i, z1, h3⟩ := asI.eq h2
    obtain ⟨j, z2, h4, h5⟩ := asI.eq h3
    subst z1 z2
    exact ⟨i, j, r1.int_inv, r2.int_inv, h4, fun q hq => lstT S2 (fun v F' H' e S' r => h5 v F' H' ((e1.trans e2).trans e) S' r) q hq⟩⟩
end
end DL
set_option Elab.async false
set_option linter.all false
set_option maxRecDepth 100000
set_option maxHeartbeats 2000000
/-! DX12: {k: v}, k a tuple of any depth. -/
namespace DL
open PySem L2 Evl PySem.Spec PyProof.Rows LamX
variable [Tbs]
section
variable {X : Cx} {pins : List (Addr × Obj)} {σ : L2.St} {H : Hp} {s : Shared} {A : Around} {E : Value → Shared → Prop} {a b : Addr}
theorem d_dictSetN {ws : NW} {k : NestedKey} {v : V} {r : Value} {Q : Unit → Shared → Prop} (hu : A.units + 9 < cLine) (I : Inv X pins σ H s) (e : H a = some (ND a ws)) (hk : NKeys H ws) (kk : KeyV H k (.ref b)) (kd : k.depth ≤ 8) (hl : ws.length < sizeLine) (rv : RelV v r)
    (h : ∀ s', Inv X pins σ (upd H a (ND a (putN ws k b v))) s' → Q () s') : wpAny (model X.prog X.w) A (dictSet a (.ref b) r) Q E s := by
  obtain ⟨hd, z, xs, rel, dd⟩ := nd_rd I.hok (.inl e) hk
  have hz : xs.length ≤ sizeLine := by rw [← Paired.length rel]; exact z
  exact wpAny_dictSet_heap (knd := nestedKind X.prog X.w) (hsz := hz) (show A.units + 8 < cLine by omega) ⟨keyV_is I.hok kk rfl, kd⟩ dd fun h' dd' hs => h _ (nd_write I e hd hk kk kd hl rel rv dd' hs)
def tD1N (tk tv : TE) : TE := fun σ H Q => ∀ p, H p = none → tPairs [(tk, tv)] σ (upd H p (ND p [])) fun ps H2 => H2 p = some (ND p []) ∧ ∃ b k y, ps = [(V.ref b, y)] ∧ KeyV H2 k (.ref b) ∧ k.depth ≤ 8 ∧ Q (.ref p) (upd H2 p (ND p [(k, b, y)]))
theorem pe_disp1N {k v : Expr} {tk tv : TE} {pos : Pos} (hu : X.A.units + 9 < cLine) (hk : PE X k tk) (hv : PE X v tv) : PE X (.Dict [some k] [v] pos) (tD1N tk tv) := by
  refine ⟨fun pins s σ H Q I q => ?_⟩
  have hn := I.hok.fresh (Nat.le_refl s.heap.objs.size)
  have I1 := I.laid (a := s.heap.objs.size) (o := ND s.heap.objs.size []) (h' := s.heap.push { cls := .type "dict", data := .dict #[] }) (t' := s.toks) (fun _ _ q => Heap.get?_push_of_some _ q) (Nat.le_refl _) (nd_obj (nd_empty s.heap I.big))
  refine wpAny_Dict_any rfl rfl (by simp) (by simp) (thn ((pps_cons hk hv pps_nil).run pins _ σ _ _ I1 (q _ hn)) fun ws s2 h2 => ?_)
  obtain ⟨ps, H2, I2, rel, hp, b, ks, y, eps, kb, kd, q2⟩ := h2
  subst eps
  cases rel with
  | @cons p0 q0 _ _ h t =>
    cases t
    obtain ⟨u, r⟩ := q0
    obtain ⟨ru, rr⟩ := h
    obtain rfl : u = Value.ref b := ru
    unfold storeAll
    rw [List.forIn_cons]
    exact wpAny_bind (wpAny_bind (d_dictSetN hu I2 hp (fun p hp => by cases hp) kb kd (by rw [sizeLine_eq]; decide) rr fun s3 I3 => wpAny_pure (wpAny_pure ⟨.ref s.heap.objs.size, _, I3, rfl, q2⟩)))
end
def nD1N (dk dv : DE) : NE := fun ρ X K => dk ρ X fun k ρ1 => dv ρ1 X fun v ρ2 => ofS k.nkT fun kk => K (.dctN [(kk, v)]) ρ2
theorem w_d1N {ρ : Env} {X : XP} {KN : Ct → Env → Prop} {dk dv : DE} (h : dk ρ X fun k ρ1 => dv ρ1 X fun v ρ2 => ofS k.nkT fun kk => KN (.dctN [(kk, v)]) ρ2) : nD1N dk dv ρ X KN := h
theorem ne_nd_tup {p : Addr} {ws : NW} : ∀ vs, ND p ws ≠ .tup vs := fun _ z => by unfold ND at z; cases z
theorem nt_nd {p : Addr} {ws : NW} : ¬ isTb (ND p ws) := fun z => by
  rcases z with ⟨_, z⟩ | ⟨_, _, z⟩
  · unfold ND at z; cases z
  · exact nd_ne_code z
section
variable {X : Cx} {W : WX} {a b : Expr} {dk dv : DE} {pos : Pos}
theorem pn_disp1N {k : Nat} (hr : Room k X.A) (ha : PD X W a dk) (hb : PD X W b dv) : PN X W (.Dict [some a] [b] pos) (nD1N dk dv) := by
  refine ⟨⟨fun hx hk h => ha.mono.go hx (fun k ρ h => hb.mono.go hx (fun v ρ h => ofS.mono (fun kk h => hk _ _ h) h) h) h⟩, PE.imp (pe_disp1N (hu9 hr) ha.run hb.run) fun σ H Q ⟨B, F, ρ, S, h⟩ p hp => ?_⟩
  obtain ⟨S1, gp, f0, h0⟩ := aside S hp (o := ND p []) ne_nd_tup nt_nd
  refine liftE.of ha.mono (Ex.refl _) S1 (ha.mono.go (fun x ρ h => xl_prot gp f0 ne_nd_tup h) (fun _ _ h => h) h) fun k ρ1 h v F1 H1 e1 S1 r1 => ?_
  refine liftE.of hb.mono e1 S1 (hb.mono.go (fun x ρ h => xl_prot gp f0 ne_nd_tup h) (fun _ _ h => h) h) fun y ρ2 h w F2 H2 e2 S2 r2 => ?_
  obtain ⟨kk, ek, h⟩ := ofS.eq h
  obtain ⟨q, rfl, hq, c3, c2, rk⟩ := key_at S2.ex (r1.mono e2) ek
  have hc : CtR X.K F2 p (ND p [(kk, q, w)]) (.dctN [(kk, y)]) := ⟨_, rfl, .cons c3 c2 rk r2 .nil⟩
  obtain ⟨hp2, S3, n⟩ := takeUp S2 gp f0 h0 ne_nd_tup hc nt_nd
  exact ⟨hp2, q, kk, w, rfl, hq, c3, h _ _ _ (e1.trans e2) S3 n⟩
end
end DL
set_option Elab.async false
set_option linter.all false
set_option maxRecDepth 100000
set_option maxHeartbeats 2000000
/-! DX13: len of a dict with nested keys; the stepper's rules for what is new. -/
namespace DL
open PySem L2 Evl PySem.Spec PyProof.Rows LamX
variable [Tbs]
theorem call_lenN {X : Cx} : CallR X (.builtin "len") (fun xs H Q => ∃ a ws, xs = [V.ref a] ∧ Rd H a (ND a ws) ∧ NKeys H ws ∧ Q (.int ws.length) H) := by
  intro pins s σ H xs us Q I r h
  obtain ⟨a, ws, rfl, e, hk, q⟩ := h
  obtain ⟨u, rfl, rx⟩ := vals1 r
  obtain rfl : u = Value.ref a := rx
  obtain ⟨hd, z, zs, rel, dd⟩ := nd_rd I.hok e hk
  have hl : zs.length = ws.length := (Paired.length rel).symm
  refine PySem.call_len_dictH hd dd ?_ ⟨.int ws.length, H, I.tok _, ⟨_, by rw [hl]⟩, q⟩
  rw [hl]
  have := sizeLine_eq
  omega
/-- len of an owned dict with nested keys -/
def eLenSN (i : Nat) : DE := fun ρ _ K => owC (gt ρ i) fun _ c => match c with
  | .dctN kvs => K (.int kvs.length) ρ
  | _ => False
section
variable {X : Cx} {W : WX} {pos p : Pos}
theorem pd_lenSN (i : Nat) {x : Str} {p2 : Pos} (hg : Gl X "len") (hm : X.mg "len" = none) (hN : X.N[i]? = some x := by rfl) (hv : Vis X.env.scope x := by first | exact Or.inl rfl | exact Or.inr (Or.inl rfl) | exact Or.inr (Or.inr rfl)) (hd : (x == ("__debug__" : Str)) = false := by decide)
    (hcd : (x == ("__classdict__" : Str)) = false := by decide) (hse : starEach [.Name x p2] X.env = (false, eval (.Name x p2) X.env) :: starEach [] X.env := by rfl) (hpl : (backTo pos (starEach [] X.env)).any (·.1) = false := by rfl) :
    PD X W (.Call (.Name "len" p) [.Name x p2] [] pos) (eLenSN i) := by
  refine ⟨⟨fun hx hk h => owC.mono (fun b c h => by cases c <;> first | exact hk _ _ h | exact h.elim) h⟩, PE.imp (pe_callB call_lenN hg hm rfl (pa_cons (pe_var (i := i) hN hv hd hcd) pa_nil hse) (by decide) (by decide) hse hpl) fun σ H Q ⟨B, F, ρ, S, h⟩ => ?_⟩
  obtain ⟨b, c, es, h⟩ := h.eq
  cases c <;> try exact h.elim
  obtain ⟨a, ea, ⟨nf, ng, o, ho, hcr⟩, _⟩ := S.ow es
  obtain ⟨ws, rfl, r⟩ := hcr
  refine ⟨_, ea, a, ws, rfl, .inl ho, NReps.keys S.ex r, ?_⟩
  rw [r.length]
  exact h _ F H (Ex.refl _) S (.int _)
end
section
variable {ρ : Env} {X : XP} {K : D → Env → Prop} {P : DP} {de da db : DE}
theorem w_raise {C : Addr} {f : Str} (h : de ρ P.ex fun d ρ1 => P.ex ⟨C, f, d⟩ ρ1) : dRaise C f de ρ P := h
theorem w_heard {told : Str} {n i : Nat} {l : List Dc} (h : de ρ (fun x ρ1 => hD n i l x fun d => K d ρ1) fun d ρ1 => K (.tuple [.str told, d]) ρ1) : eHeard told n i l de ρ X K := h
theorem w_lr2 (h : da ρ X fun x ρ1 => db ρ1 X fun y ρ2 => asI x fun i => asI y fun j => RgOk i j ∧ K (.list (rgD i j)) ρ2) : eLr2 da db ρ X K := h
theorem w_lr1 (h : da ρ X fun x ρ1 => asI x fun j => RgOk 0 j ∧ K (.list (rgD 0 j)) ρ1) : eLr1 da ρ X K := h
theorem w_asI {i : Int} {k : Int → Prop} (h : k i) : asI (.int i) k := h
theorem w_sum {ns : List Int} {xs : List D} {Q : D → Prop} (g : asInts xs = some ns) (h : Q (.int ns.sum)) : fSum [.list xs] Q := show ofS (asInts xs) _ from w_ofS g h
theorem w_lenSN {i : Nat} {bb : Bool} {kvs : List (NestedKey × D)} (g : gt ρ i = .ow bb (.dctN kvs)) (h : K (.int kvs.length) ρ) : eLenSN i ρ X K := by unfold eLenSN; rw [g]; exact h
theorem w_xf {a : Addr} {cls : Value} {d : Option Addr} {C : Addr} {f : Str} (h : de ρ X fun r ρ1 => ∃ dd v, r = .exn a dd C f v ∧ cls = .ref C ∧ d = some dd ∧ K v ρ1) : eXf a cls d C f de ρ X K := h
theorem w_ex3 {a dd C : Addr} {f : Str} {v : D} {k : D → Prop} (h : k v) : ∃ dd' v', D.exn a dd C f v = .exn a dd' C f v' ∧ Value.ref C = .ref C ∧ some dd = some dd' ∧ k v' := ⟨dd, v, rfl, rfl, rfl, h⟩
end
end DL
set_option Elab.async false
set_option linter.all false
set_option maxRecDepth 100000
set_option maxHeartbeats 2000000
/-! DX14: the law's call where its own code keeps tables (lambdas), nothing being shown. -/
namespace DL
open PySem L2 Evl PySem.Spec PyProof.Rows
/-- an empty table of a code object -/
abbrev tab0 : Obj := { cls := .none, data := .fields #[] }
/-- the start: the script, perhaps frozen; the tables, empty -/
structure Begins (K : PySem.W.Frag) (H : Hp) (a : Addr) (cs : List (Addr × Addr)) : Prop where
  what : ∀ b u, H b = some u → (b = a ∧ ∃ o xs, u = .frz o (.lst xs)) ∨ (u = .tbl #[] ∧ ∃ p ∈ cs, p.2 = b)
  tabs : ∀ p ∈ cs, H p.2 = some (.tbl #[])
  away : H a ≠ none → K.lookup a = none
section
variable {P : Program} {w : World} {K : PySem.W.Frag} {mg mb : Str → Option Value} {CX : CXT} {k : Nat} {fa a : Addr} {cs : List (Addr × Addr)} {fd : FuncData} {x : Str} {sp : Sp} {s₁ : Shared} {vs : List Value} {ns : List Int} {h : Heap} {H : Hp}
/-- what H does not speak of -/
theorem Begins.free (B : Begins K H a cs) (hT : ∀ p ∈ cs, h.get? p.2 = some tab0) (ha : h.get? a = some { cls := .type "list", data := .seq vs.toArray }) {b : Addr} {o : Obj} (e : h.get? b = some o) (n1 : ∀ xs n, o.data ≠ .seq xs n) (n2 : o.data ≠ .fields #[]) : H b = none := by
  cases q : H b with
  | none => rfl
  | some u =>
    rcases B.what b u q with ⟨rfl, _⟩ | ⟨_, p, hp, rfl⟩
    · rw [ha] at e; cases e; exact absurd rfl (n1 _ _)
    · rw [hT p hp] at e; cases e; exact absurd rfl n2
theorem Begins.names (B : Begins K H a cs) (hT : ∀ p ∈ cs, h.get? p.2 = some tab0) (ha : h.get? a = some { cls := .type "list", data := .seq vs.toArray }) {b : Addr} {m : Str → Option Value} : h.Ns b m → (hidT h H).Ns b m := fun ⟨o, es, ep, e, d, r⟩ =>
  ⟨o, es, ep, hidT_get e (B.free hT ha e (fun _ _ z => nomatch d.symm.trans z) fun z => nomatch d.symm.trans z), d, r⟩
theorem Begins.kin (B : Begins K H a cs) (KX : K.In h) (nT : ∀ p ∈ cs, K.lookup p.2 = none) : K.In (hidT h H) := fun b o e => hidT_get (KX b o e) (by
  cases q : H b with
  | none => rfl
  | some u =>
    rcases B.what b u q with ⟨rfl, _⟩ | ⟨_, p, hp, rfl⟩
    · rw [B.away (by rw [q]; simp)] at e; cases e
    · rw [nT p hp] at e; cases e)
theorem Begins.tabB (B : Begins K H a cs) (hT : ∀ p ∈ cs, h.get? p.2 = some tab0) (ha : h.get? a = some { cls := .type "list", data := .seq vs.toArray }) (C : ∀ p ∈ cs, PySem.W.CodeHd h p.1 p.2) (hns : h.Ns mainGlobals mg)
    (hbm : ∃ (bm : Addr) (ob : Obj), mg "__builtins__" = some (.ref bm) ∧ bm ≠ builtinsNs ∧ h.get? bm = some ob ∧ ob.cls = .type "module" ∧ ob.dict = some builtinsNs ∧ ob.data = .plain) {p : Addr × Addr} (hp : p ∈ cs) : LamX.TabB (hidT h H) mg p.1 p.2 := by
  have hTp := hT p hp
  have keep : ∀ {b : Addr} {o : Obj}, h.get? b = some o → (∀ xs n, o.data ≠ .seq xs n) → o.data ≠ .fields #[] → (hidT h H).get? b = some o := fun e n1 n2 => hidT_get e (B.free hT ha e n1 n2)
  obtain ⟨g0, ge, gp, eg, dg, rg⟩ := hns
  refine ⟨?_, ?_, fun z => ?_⟩
  · obtain ⟨co, us, file, tf, flags, tg, inF, text, tt, e1, r1, r2, rest⟩ := C p hp
    have r3 := rest.1
    exact ⟨co, us, file, tf, flags, tg, inF, text, tt, keep e1 (fun xs n z => by rw [r2] at z; cases z) (fun z => by rw [r2] at z; cases z; simp at r3), r1, r2, rest⟩
  · obtain ⟨bm, ob, b1, b2, b3, b4, b5, b6⟩ := hbm
    refine ⟨bm, ob, b1, b2, ?_, ?_, keep b3 (fun xs n z => by rw [b6] at z; cases z) (fun z => by rw [b6] at z; cases z), b4, b5, b6⟩
    · rintro rfl; rw [eg] at b3; cases b3; rw [dg] at b6; cases b6
    · rintro rfl; rw [hTp] at b3; cases b3; cases b6
  · rw [z, hTp] at eg; cases eg; cases dg
theorem law_goT (KX : K.In s₁.heap) (hns : s₁.heap.Ns mainGlobals mg) (hb : s₁.heap.Ns builtinsNs mb) (hbb : ∀ y : Str, y ≠ "__name__" → mb y = bootBuiltins y) (hlim : s₁.heap.NoLimit) (hg : s₁.gens = #[])
    (hT : ∀ p ∈ cs, s₁.heap.get? p.2 = some tab0) (nT : ∀ p ∈ cs, K.lookup p.2 = none) (C : ∀ p ∈ cs, PySem.W.CodeHd s₁.heap p.1 p.2)
    (hbm : ∃ (bm : Addr) (ob : Obj), mg "__builtins__" = some (.ref bm) ∧ bm ≠ builtinsNs ∧ s₁.heap.get? bm = some ob ∧ ob.cls = .type "module" ∧ ob.dict = some builtinsNs ∧ ob.data = .plain)
    (ha : s₁.heap.get? a = some { cls := .type "list", data := .seq vs.toArray }) (hr : Room k callerA)
    (F : ∀ base : Heap, K.In base → base.Ns mainGlobals mg → (∀ p ∈ cs, LamX.TabB base mg p.1 p.2) → FnOkG P w K mg base CX k fa fd [x] sp) (hbind : ∀ (s : Shared) (u : Value), BindsTo s fd ⟨[u], []⟩ [(x, u)]) (hCX : ∀ H e s', CX [] H s₁ (fun _ _ _ => False) e s' → False)
    (B : Begins K H a cs) (hsp : sp [.ref a] H (fun v _ => v = .bl true) fun _ _ _ => False) (hok : HOk P w H s₁.heap) :
    codeAny (model P w) callerA (.call (.ref fa) ⟨[.ref a], []⟩) (fun r s' => r = .ok (.ret (.bool true)) ∧ OldK s₁.heap s'.heap ∧ s'.os = s₁.os ∧ AllBare s'.gens) s₁ := by
  have KH := B.kin KX nT
  have hn' : ∀ {b : Addr} {m : Str → Option Value}, s₁.heap.Ns b m → (hidT s₁.heap H).Ns b m := B.names hT ha
  have TB : ∀ p ∈ cs, LamX.TabB (hidT s₁.heap H) mg p.1 p.2 := fun p hp => B.tabB hT ha C hns hbm hp
  have e0 : Env0 P w K mg (hidT s₁.heap H) callerA [] s₁ H := ⟨rfl, ⟨KH, hn' hns, ⟨mb, hn' hb, hbb⟩, hlim.imp fun _ q => ⟨hn' q.1, q.2⟩⟩, fun _ _ e => of_hidT e, Nat.le_of_eq (hidT_size _ _), trivial, fun b hb => (List.not_mem_nil hb).elim, hok, .of_eq hg⟩
  refine codeAny_mono ((F _ KH (hn' hns) TB).run callerA [] s₁ H _ [.ref a] [.ref a] _ _ rfl hr e0 (hbind s₁ (.ref a)) (.cons rfl .nil) hsp) fun r s' hh => ?_
  match r, hh with
  | .error e, hh => exact (hCX H e s' hh).elim
  | .ok (.ret u), ⟨v, H', os, bare, un, hok', rv, q⟩ =>
    obtain rfl : v = .bl true := q
    obtain rfl : u = Value.bool true := rv
    have same : ∀ b o, (∀ p ∈ cs, p.2 ≠ b) → s₁.heap.get? b = some o → s'.heap.get? b = some o := fun b o nb e => by
      cases q : H b with
      | none => exact un.keep b o e q (List.not_mem_nil) (List.not_mem_nil)
      | some u =>
        rcases B.what b u q with ⟨_, ob, xs, rfl⟩ | ⟨_, p, hp, z⟩
        · have e1 := (hok b _ q).1
          rw [e] at e1
          cases e1
          exact (hok' b _ (un.frzs b _ _ q)).1
        · exact absurd z (nb p hp)
    have grown : ∀ p ∈ cs, ∃ more : Array Value, s'.heap.get? p.2 = some { cls := .none, data := .fields more } := fun p hp => by
      obtain ⟨more, z⟩ := un.tbls p.2 #[] (B.tabs p hp)
      exact ⟨_, hok' p.2 _ z⟩
    refine ⟨rfl, ⟨fun b o e => ?_, fun b o e => ?_⟩, os, bare⟩
    · by_cases hb : ∃ p ∈ cs, p.2 = b
      · obtain ⟨p, hp, rfl⟩ := hb
        obtain ⟨more, hm⟩ := grown p hp
        rw [hT p hp] at e
        cases e
        exact .inr (.inl ⟨((C p hp).tab (hT p hp)).isCodeTable, rfl, #[], more, rfl, by rw [Array.empty_append]; exact hm⟩)
      · exact .inl (same b o (fun p hp z => hb ⟨p, hp, z⟩) e)
    · by_cases hb : ∃ p ∈ cs, p.2 = b
      · obtain ⟨p, hp, rfl⟩ := hb
        obtain ⟨more, hm⟩ := grown p hp
        exact ⟨_, hm⟩
      · exact ⟨o, same b o (fun p hp z => hb ⟨p, hp, z⟩) e⟩
theorem law_callT (KX : K.In s₁.heap) (hns : s₁.heap.Ns mainGlobals mg) (hb : s₁.heap.Ns builtinsNs mb) (hbb : ∀ y : Str, y ≠ "__name__" → mb y = bootBuiltins y) (hlim : s₁.heap.NoLimit) (hg : s₁.gens = #[])
    (hT : ∀ p ∈ cs, s₁.heap.get? p.2 = some tab0) (nT : ∀ p ∈ cs, K.lookup p.2 = none) (C : ∀ p ∈ cs, PySem.W.CodeHd s₁.heap p.1 p.2)
    (hbm : ∃ (bm : Addr) (ob : Obj), mg "__builtins__" = some (.ref bm) ∧ bm ≠ builtinsNs ∧ s₁.heap.get? bm = some ob ∧ ob.cls = .type "module" ∧ ob.dict = some builtinsNs ∧ ob.data = .plain)
    (ha : s₁.heap.get? a = some { cls := .type "list", data := .seq vs.toArray }) (hi : IntsAre vs ns) (hl : ns.length ≤ sizeLine) (hr : Room k callerA)
    (F : ∀ base : Heap, K.In base → base.Ns mainGlobals mg → (∀ p ∈ cs, LamX.TabB base mg p.1 p.2) → FnOkG P w K mg base CX k fa fd [x] sp) (hbind : ∀ (s : Shared) (u : Value), BindsTo s fd ⟨[u], []⟩ [(x, u)]) (hCX : ∀ H e s', CX [] H s₁ (fun _ _ _ => False) e s' → False)
    (hsp : ∀ H : Hp, (∀ p ∈ cs, H p.2 = some (.tbl #[])) → SqL K H a (ns.map V.int) → sp [.ref a] H (fun v _ => v = .bl true) fun _ _ _ => False) :
    codeAny (model P w) callerA (.call (.ref fa) ⟨[.ref a], []⟩) (fun r s' => r = .ok (.ret (.bool true)) ∧ OldK s₁.heap s'.heap ∧ s'.os = s₁.os ∧ AllBare s'.gens) s₁ := by
  classical
  have go := fun H => law_goT (H := H) KX hns hb hbb hlim hg hT nT C hbm ha hr F hbind hCX
  have aT : ∀ p ∈ cs, p.2 ≠ a := fun p hp z => by
    have e := hT p hp
    rw [z, ha] at e
    exact nomatch (show Data.seq vs.toArray _ = Data.fields #[] from congrArg Obj.data (Option.some.inj e))
  let HT : Hp := fun b => if ∃ p ∈ cs, p.2 = b then some (.tbl #[]) else none
  have tT : ∀ p ∈ cs, HT p.2 = some (.tbl #[]) := fun p hp => if_pos ⟨p, hp, rfl⟩
  have tO : ∀ b u, HT b = some u → u = .tbl #[] ∧ ∃ p ∈ cs, p.2 = b := fun b u z => by
    by_cases q : ∃ p ∈ cs, p.2 = b
    · exact ⟨(Option.some.inj ((if_pos q).symm.trans z)).symm, q⟩
    · exact nomatch (if_neg q).symm.trans z
  have tK : ∀ b u, HT b = some u → ObjOk P w HT s₁.heap b u := fun b u z => by
    obtain ⟨rfl, p, hp, rfl⟩ := tO b u z
    exact hT p hp
  cases hk : K.lookup a with
  | some o =>
    have e := KX a o hk
    rw [ha] at e
    cases e
    refine go HT ⟨fun b u z => .inr (tO b u z), tT, fun z => ?_⟩ (hsp HT tT (.inr ⟨_, vs.toArray, _, hk, rfl, rfl, rfl, by rw [List.size_toArray, hi.length]; exact hl, vals_ints hi⟩)) tK
    cases q : HT a with
    | none => exact absurd q z
    | some u => obtain ⟨_, p, hp, e⟩ := tO a u q; exact absurd e (aT p hp)
  | none =>
    let H : Hp := fun b => if b = a then some (.frz { cls := .type "list", data := .seq vs.toArray } (.lst (ns.map V.int))) else HT b
    have Ha : H a = some (.frz { cls := .type "list", data := .seq vs.toArray } (.lst (ns.map V.int))) := if_pos rfl
    have Hb : ∀ b, b ≠ a → H b = HT b := fun b n => if_neg n
    have hHT : ∀ p ∈ cs, H p.2 = some (.tbl #[]) := fun p hp => (Hb _ (aT p hp)).trans (tT p hp)
    refine go H ⟨fun b u z => ?_, hHT, fun _ => hk⟩ (hsp H hHT (.inl (.inr ⟨_, Ha⟩))) fun b u z => ?_
    · by_cases q : b = a
      · subst q
        rw [Ha] at z
        cases z
        exact .inl ⟨rfl, _, _, rfl⟩
      · rw [Hb b q] at z
        exact .inr (tO b u z)
    · by_cases q : b = a
      · subst q
        rw [Ha] at z
        cases z
        exact ⟨ha, by rw [List.length_map]; exact hl, vs, _, vals_ints hi, ha⟩
      · rw [Hb b q] at z
        obtain ⟨rfl, p, hp, rfl⟩ := tO b u z
        exact hT p hp
end
theorem walk_ofTG {l : PySem.W.OpenLaw} {n k : Nat} {q : Program} {loose : List Str} {XP : (Str → Option Value) → Heap → Prop} {YP : World → Heap → Prop} {d : DefRec} {CX : World → CXT} {x : Str}
    (hn : l.most = some n) (hn2 : n ≤ sizeLine) (hdf : d.params.defaults = []) (hr : Room k callerA)
    (F : ∀ (w : World) (mg : Str → Option Value) (fa : Addr) (h : Heap), YP w h → h.Ns mainGlobals mg → mg d.name = some (.ref fa) →
      ∃ (K : PySem.W.Frag) (fd : FuncData) (sp : Sp) (cs : List (Addr × Addr)), K.In h ∧ (∀ p ∈ cs, h.get? p.2 = some tab0) ∧ (∀ p ∈ cs, K.lookup p.2 = none) ∧ (∀ p ∈ cs, PySem.W.CodeHd h p.1 p.2) ∧ (∀ (s : Shared) (u : Value), BindsTo s fd ⟨[u], []⟩ [(x, u)]) ∧
        (∀ (H : Hp) (a : Addr) (ns : List Int), ns.length ≤ n → (∀ p ∈ cs, H p.2 = some (.tbl #[])) → SqL K H a (ns.map V.int) → sp [.ref a] H (fun v _ => v = .bl true) fun _ _ _ => False) ∧
        ∀ base : Heap, K.In base → base.Ns mainGlobals mg → (∀ p ∈ cs, LamX.TabB base mg p.1 p.2) → FnOkG l.prog w K mg base (CX w) k fa fd [x] sp)
    (hCX : ∀ (w : World) (H : Hp) (s : Shared) (e : Value) (s' : Shared), CX w [] H s (fun _ _ _ => False) e s' → False) :
    PySem.W.WalkO q loose XP YP l.row.toRowW d [] (fun f vs => PySem.call f vs) := by
  refine Att.attach_call hn hdf fun w s₀ s₁ mg mb fa o pm cd doc a vs ns G Y ho hd hcd hmg hobj hints hlen hg => ?_
  obtain ⟨K, fd, sp, cs, KX, hT, nT, C, hb, hsp, hF⟩ := F w mg fa _ Y G.T.g hmg
  exact law_callT KX G.T.g G.T.b G.T.builtins G.T.nolimit hg hT nT C G.T.bmain hobj hints (Nat.le_trans hlen hn2) hr hF hb (fun H e s' => hCX w H s₁ e s') fun H hO hS => hsp H a ns hlen hO hS
end DL
set_option Elab.async false
set_option linter.all false
set_option maxRecDepth 100000
set_option maxHeartbeats 2000000
/-! DX15: the head's look at own exception classes, code tables, keyword defaults. -/
namespace DL
open PySem L2 PySem.Spec PyProof.Rows
/-- an __init__ of an own exception, as the text has it -/
structure InD where
  cls : Str
  qual : Str
  params : Arguments
  body : List Stmt
  scope : Scope
  B : String
  nid : String
  iid : String
  tl : List Value
  fld : Str
abbrev FnI : Type := Option (Str × Str × Arguments × FuncBody × Scope × Addr × List Str × Addr)
def fnI (K : PySem.W.Frag) (f : Addr) : FnI := match K.lookup f with
  | some ⟨_, _, .func fd, _⟩ => some (fd.name, fd.qualname, fd.params, fd.body, fd.scope, fd.globals, fd.closure.map (·.1), fd.builtins)
  | _ => none
def InD.at_ (d : InD) (K : PySem.W.Frag) : Addr := He.ma K (He.ga K d.cls) "__init__"
def InD.val (d : InD) : FnI := some ("__init__", d.qual, d.params, .stmts d.body, d.scope, mainGlobals, ["__class__"], builtinsNs)
/-- l: classes of the program, then tl -/
def refsOver (tl : List Value) : List Value → Bool
  | [] => tl == []
  | v :: r => (v :: r) == tl || match v with
    | .ref _ => refsOver tl r
    | _ => false
theorem refsOver_ok {tl : List Value} : ∀ {l : List Value}, refsOver tl l = true → ∃ cs : List Addr, l = cs.map Value.ref ++ tl
  | [], e => ⟨[], (beq_iff_eq.mp (show (tl == []) = true from e)).symm⟩
  | v :: r, e => by
    unfold refsOver at e
    rcases Bool.or_eq_true_iff.mp e with q | q
    · exact ⟨[], (beq_iff_eq.mp q)⟩
    · cases v with
      | ref c =>
        obtain ⟨cs, rfl⟩ := refsOver_ok (tl := tl) (l := r) q
        exact ⟨c :: cs, rfl⟩
      | _ => cases q
def clsXB (K : PySem.W.Frag) (C : Addr) (nid : String) (tl : List Value) : Bool := match K.lookup C with
  | some ⟨.type "type", _, .cls cd, sl⟩ => (match cd.mro, sl.toList with
    | .ref c :: bm, [_, _, _, _, some (.builtin n), _] => c == C && (n == nid && (!cd.hasDel && (cd.hasDict && refsOver tl bm)))
    | _, _ => false)
  | _ => false
def excKB (K : PySem.W.Frag) (C : Addr) (B nid : String) (tl : List Value) : Bool :=
  clsXB K C nid tl && (decide (PySem.W.findIn K (.ref C) "__setattr__" = some (some (.builtin "object.__setattr__"))) && (decide (PySem.W.subIn K (.ref C) (.type B) = some true) && (decide (PySem.W.subIn K (.ref C) (.type "BaseException") = some true) &&
    (decide (PySem.W.typeIn K (.ref C) = some (.type "type")) && PySem.W.keepIn K (.ref C)))))
theorem excKB_ok {K : PySem.W.Frag} {C : Addr} {B nid : String} {tl : List Value} (h : excKB K C B nid tl = true) : ExcK K C B nid tl := by
  obtain ⟨h0, h⟩ := He.ba h
  obtain ⟨h1, h⟩ := He.ba h
  obtain ⟨h2, h⟩ := He.ba h
  obtain ⟨h3, h⟩ := He.ba h
  obtain ⟨h4, h5⟩ := He.ba h
  refine ⟨?_, of_decide_eq_true h1, of_decide_eq_true h2, of_decide_eq_true h3, of_decide_eq_true h4, h5⟩
  unfold clsXB at h0
  split at h0
  · rename_i dd cd sl ho
    split at h0
    · rename_i c bm k0 k1 k2 k3 n k5 hm hs
      obtain ⟨a1, h0⟩ := He.ba h0
      obtain ⟨a2, h0⟩ := He.ba h0
      obtain ⟨a3, h0⟩ := He.ba h0
      obtain ⟨a4, a5⟩ := He.ba h0
      obtain ⟨cs, rfl⟩ := refsOver_ok a5
      obtain rfl : c = C := beq_iff_eq.mp a1
      obtain rfl : n = nid := beq_iff_eq.mp a2
      obtain ⟨nm, bs, mro, ns, qn, hd, sn, sub, ab, col, del⟩ := cd
      dsimp only at hm a3 a4
      obtain rfl : del = false := by cases del with | false => rfl | true => cases a3
      subst hm a4
      obtain rfl : sl = #[k0, k1, k2, k3, some (.builtin n), k5] := by
        obtain ⟨l⟩ := sl
        exact congrArg Array.mk hs
      exact ⟨_, _, _, _, cs, _, _, _, _, _, _, _, _, _, _, ho⟩
    · cases h0
  · cases h0
/-- the code object, the cell, the defaults of such an __init__ -/
def iniB (P : Program) (K : PySem.W.Frag) (d : InD) : Bool :=
  (match K.lookup (d.at_ K) with
  | some ⟨_, _, .func fd, _⟩ => (match fd.code, fd.defaults, fd.closure with
    | .ref c, .none, [(_, cc)] => PySem.W.codeIn K (.ref c) d.qual && ((match K.lookup c with
      | some ⟨_, _, .fields vs, _⟩ => (match (vs[2]? : Option Value) with
        | some (.str file _) => (P.main.file : Str) == file
        | _ => false)
      | _ => false) && (match K.lookup cc with
      | some ⟨_, _, .cell (some v), _⟩ => decide (v = .ref (He.ga K d.cls))
      | _ => false))
    | _, _, _ => false)
  | _ => false)
def raiB (P : Program) (K : PySem.W.Frag) (d : InD) : Bool :=
  excKB K (He.ga K d.cls) d.B d.nid d.tl && (iniB P K d && (xfB K (He.ga K d.cls) && (decide (PySem.W.findIn K (.ref (He.ga K d.cls)) "__init__" = some (some (.ref (d.at_ K)))) && (decide (PySem.W.typeIn K (.ref (d.at_ K)) = some (.type "function")) &&
    (decide (PySem.W.ks_superIn K (He.ga K d.cls) (He.ga K d.cls) "__init__" = some (some (.builtin d.iid))) && (decide (PySem.W.nsIn K cStatics "thirdparty.any" = some none) && decide (PySem.W.findIn K (.ref (He.ga K d.cls)) d.fld = some none)))))))
/-- what the text itself says of it -/
structure InOk (P : Program) (d : InD) (sf ar txt : Str) : Prop where
  x : XBase d.B d.nid d.iid d.tl
  body : ∃ j p0 p1 p2 p3 p4 p5 p6 p7 p8 p9, d.body = [.Expr (.Call (.Attribute (.Call (.Name "super" p0) [] [] p1) "__init__" p2) [.Constant (.str txt) j p3] [] p4) p5, .Assign [.Attribute (.Name sf p6) d.fld p7] (.Name ar p8) p9] ∧ (p2.endLine == p4.line) = true
  par : ∃ a, (d.params.posonlyargs ++ d.params.args).head? = some a ∧ a.arg = sf
  sc : NdefX.nscB [sf, ar, "__class__"] [sf, ar] ["__class__"] d.scope = true
  sup : d.scope.names.lookup ("super" : Str) = some .globalImplicit
  top : (P.main.scope.names.lookup ("super" : Str)).isSome = false
  ne : sf ≠ ar ∧ (sf == ("__debug__" : Str)) = false ∧ (ar == ("__debug__" : Str)) = false ∧ (sf == ("__classdict__" : Str)) = false ∧ (ar == ("__classdict__" : Str)) = false
  bind : ∀ (cl : List (Str × Addr)) (kV doc pm : Value) (an : Option Addr) (cdv ct u v : Value), bindArgs (PySem.W.fnX "__init__" d.qual d.params d.body d.scope cl .none kV doc pm an cdv ct) ⟨[u, v], []⟩ = pure [(sf, u), (ar, v)]
theorem raisK_of {P : Program} {K : PySem.W.Frag} {mg : Str → Option Value} {d : InD} {sf ar txt : Str} (o : InOk P d sf ar txt) (e : fnI K (d.at_ K) = d.val) (c : raiB P K d = true) (m : mg d.cls = some (.ref (He.ga K d.cls))) (ms : mg "super" = none) : RaisK P K mg d.cls (He.ga K d.cls) d.B d.nid d.iid d.tl d.fld := by
  obtain ⟨c1, c⟩ := He.ba c
  obtain ⟨c2, c⟩ := He.ba c
  obtain ⟨c3, c⟩ := He.ba c
  obtain ⟨c4, c⟩ := He.ba c
  obtain ⟨c5, c⟩ := He.ba c
  obtain ⟨c6, c⟩ := He.ba c
  obtain ⟨c7, c8⟩ := He.ba c
  obtain ⟨j, p0, p1, p2, p3, p4, p5, p6, p7, p8, p9, eb, ln⟩ := o.body
  refine ⟨o.x, excKB_ok c1, m, xfB_ok c3, of_decide_eq_true c8, ?_⟩
  unfold iniB at c2
  unfold fnI at e
  split at c2
  · rename_i oc od fd osl lk
    rw [lk] at e
    obtain ⟨n1, n2, n3, n4, n5, n6, n7, n8, n9, n10, n11, n12, n13, n14, n15⟩ := fd
    have e2 : (some (n1, n2, n3, n4, n5, n6, n7.map (·.1), n15) : FnI) = d.val := e
    unfold InD.val at e2
    simp only [Option.some.injEq, Prod.mk.injEq] at e2
    obtain ⟨h1, h2, h3, h4, h5, h6, h7, h8⟩ := e2
    subst h1 h2 h3 h4 h5 h6 h8
    dsimp only at c2
    split at c2
    · rename_i _ cda nm cc
      obtain rfl : nm = "__class__" := by simpa using h7
      obtain ⟨k1, c2⟩ := He.ba c2
      obtain ⟨k2, k3⟩ := He.ba c2
      refine ⟨d.at_ K, _, sf, ar, txt, of_decide_eq_true c4, of_decide_eq_true c5, ⟨⟨oc, od, "__init__", d.qual, d.params, d.scope, cc, .none, n9, n10, n11, n12, cda, n14, osl, j, p0, p1, p2, p3, p4, p5, p6, p7, p8, p9, lk, by rw [eb], k1, ?_, ?_, o.par, NdefX.nscope_by o.sc, o.sup, ln⟩, of_decide_eq_true c6, of_decide_eq_true c7, ms, o.top, of_decide_eq_true c8⟩, o.ne, ?_⟩
      · split at k2
        · rename_i ccl cdd vs ccs lc
          split at k2
          · rename_i file tf hv
            exact ⟨_, _, vs, _, file, tf, lc, hv, k2⟩
          · cases k2
        · cases k2
      · split at k3
        · rename_i xcl xld v xsl lx
          obtain rfl := of_decide_eq_true k3
          exact ⟨_, _, _, lx⟩
        · cases k3
      · exact Binds.all fun us hl => match us, hl with
          | [u, v], _ => o.bind _ _ _ _ _ _ _ u v
    · cases c2
  · cases c2
/-! ### the Hook -/
/-- what a law's head is told: facts, defs, errors' __init__s, defs with tables -/
structure HdD where
  fa : List He.Fa
  fn : List He.DefD
  ini : List InD
  tf : List He.Defn
def asY (g : Addr → Option Obj) : Nat → List Addr
  | 0 => [mainGlobals, cStatics]
  | n + 1 => He.growD g (asY g n)
abbrev AlY : Type := (He.AlD × List FnI) × Bool
def obsY (P : Program) (n : Nat) (t : HdD) (g : Addr → Option Obj) : AlY :=
  let K := He.frT g (asY g n)
  ((He.obsD t.fa t.fn K, t.ini.map fun d => fnI K (d.at_ K)), (t.ini.all fun d => raiB P K d) && He.tabsB g t.tf K)
def valY (t : HdD) : AlY := ((He.valD t.fn, t.ini.map InD.val), true)
structure SaysY (P : Program) (t : HdD) (h : Heap) (K : PySem.W.Frag) : Prop where
  d : He.SaysD t.fa t.fn K
  fi : t.ini.map (fun d => fnI K (d.at_ K)) = t.ini.map InD.val
  ra : ∀ d ∈ t.ini, raiB P K d = true
  hd : ∀ p ∈ t.tf, PySem.W.codeHdIn K (He.cT K p).1 (He.cT K p).2 = true
  out : ∀ p ∈ t.tf, K.lookup (He.cT K p).2 = none
  nil : ∀ p ∈ t.tf, h.get? (He.cT K p).2 = some tab0
theorem saysY_of {P : Program} {n : Nat} {t : HdD} {h : Heap} (e : obsY P n t h.get? = valY t) : SaysY P t h (He.frT h.get? (asY h.get? n)) := by
  have e1 := congrArg (fun z : AlY => z.1.1) e
  have e2 := congrArg (fun z : AlY => z.1.2) e
  obtain ⟨h1, h2⟩ := He.ba (show ((t.ini.all fun d => raiB P (He.frT h.get? (asY h.get? n)) d) && He.tabsB h.get? t.tf (He.frT h.get? (asY h.get? n))) = true from congrArg (fun z : AlY => z.2) e)
  have key : ∀ p ∈ t.tf, PySem.W.codeHdIn (He.frT h.get? (asY h.get? n)) (He.cT (He.frT h.get? (asY h.get? n)) p).1 (He.cT (He.frT h.get? (asY h.get? n)) p).2 = true ∧ ∃ o, h.get? (He.cT (He.frT h.get? (asY h.get? n)) p).2 = some o ∧ He.emptyTab o = true := fun p hp => by
    obtain ⟨h3, h4⟩ := He.ba (List.all_eq_true.mp h2 p hp)
    refine ⟨h3, ?_⟩
    split at h4
    · rename_i o q
      exact ⟨o, q, h4⟩
    · cases h4
  exact ⟨e1, e2, fun d hd => List.all_eq_true.mp h1 d hd, fun p hp => (key p hp).1, fun p hp => (key p hp).2.elim fun o q => He.frT_none q.1 q.2, fun p hp => (key p hp).2.elim fun o q => q.1.trans (congrArg some (He.emptyTab_eq q.2))⟩
def hookY (P : Program) (n : Nat) (t : HdD) : PySem.W.Hook where
  α := AlY
  obs := fun s => obsY P n t s.heap.get?
  val := fun _ => valY t
  says := fun _ h => ∃ K : PySem.W.Frag, K.In h ∧ SaysY P t h K
  of := fun _ _ e => ⟨_, He.frT_in, saysY_of e⟩
  keeps := fun _ _ _ ⟨K, hK, c⟩ k => ⟨K, PySem.W.Frag.In.keeps hK k, ⟨c.d, c.fi, c.ra, c.hd, c.out, fun p hp => k _ _ (c.nil p hp)⟩⟩
theorem obsY_eq {P : Program} {n : Nat} {t : HdD} {g : Addr → Option Obj} {s : Shared} (h : ∀ a, g a = s.heap.get? a) : obsY P n t g = (hookY P n t).obs s := by
  rw [show g = s.heap.get? from funext h] <;> rfl
section
variable {P : Program} {t : HdD} {h : Heap} {K : PySem.W.Frag} {mg : Str → Option Value}
theorem SaysY.rais (c : SaysY P t h K) (i : Nat) {d : InD} {sf ar txt : Str} (hi : t.ini[i]? = some d) (o : InOk P d sf ar txt) (m : mg d.cls = some (.ref (He.ga K d.cls))) (ms : mg "super" = none) : RaisK P K mg d.cls (He.ga K d.cls) d.B d.nid d.iid d.tl d.fld := by
  refine raisK_of o ?_ (c.ra d (List.mem_of_getElem? hi)) m ms
  have e2 : (t.ini.map fun d => fnI K (d.at_ K))[i]? = (t.ini.map InD.val)[i]? := by rw [c.fi]
  rw [List.getElem?_map, List.getElem?_map, hi] at e2
  exact Option.some.inj e2
theorem codeAt_of {p : He.Defn} {x q : Str} {params : Arguments} {body : List Stmt} {scope : Scope} {dvs : List V} {kws : List (Str × V)} {fd : FuncData} (F : FunD K x q params body scope dvs kws (He.fAd K p) fd) : CodeAt K (He.fAd K p) (He.cT K p).1 := fun oc od fd' osl lk => by
  obtain ⟨_, _, _, _, _, _, _, _, _, _, rfl, lk', hcd, _, _⟩ := F.ex
  obtain ⟨c, rfl⟩ := He.codeIn_ref hcd
  rw [lk] at lk'
  cases lk'
  exact congrArg Value.ref (He.codeOf_eq lk rfl).symm
end
theorem tbE_nil {K : PySem.W.Frag} : TbE K [] := fun p hp => by cases hp
theorem tbE_cons {K : PySem.W.Frag} {c : Value} {tb : List (Addr × Bool)} {de : Addr → Value → Option Addr → DE} {l : List Dc} (h : ∀ q ∈ tb, PySem.W.exmOne K (.ref q.1) c = some q.2) (r : TbE K l) : TbE K ((c, tb, de) :: l) := fun p hp => by
  rcases List.mem_cons.mp hp with rfl | hp
  · exact h
  · exact r p hp
theorem exs_nil {K : PySem.W.Frag} {c : Value} : ∀ q ∈ ([] : List (Addr × Bool)), PySem.W.exmOne K (.ref q.1) c = some q.2 := fun q hq => by cases hq
theorem exs_cons {K : PySem.W.Frag} {c : Value} {a : Addr} {b : Bool} {l : List (Addr × Bool)} (h : PySem.W.exmOne K (.ref a) c = some b) (r : ∀ q ∈ l, PySem.W.exmOne K (.ref q.1) c = some q.2) : ∀ q ∈ (a, b) :: l, PySem.W.exmOne K (.ref q.1) c = some q.2 := fun q hq => by
  rcases List.mem_cons.mp hq with rfl | hq
  · exact h
  · exact r q hq
theorem mem_cT {K : PySem.W.Frag} {tf : List He.Defn} {p : Addr × Addr} (h : p ∈ tf.map (He.cT K)) : ∃ q ∈ tf, He.cT K q = p := List.mem_map.mp h
theorem tabS0 {H : Hp} {P : Addr} {q : Str} (h : H P = some (.tbl #[])) : LamX.TabS H P q := ⟨#[], h, trivial, fun _ _ z => nomatch z⟩
theorem mem_tabs {H : Hp} {l : List (Addr × Addr)} {T : List (Addr × Str)} (h : ∀ z ∈ l, H z.2 = some (.tbl #[])) (e : T.map (·.1) = l.map (·.2)) {p : Addr × Str} (hp : p ∈ T) : H p.1 = some (.tbl #[]) := by
  have z : p.1 ∈ l.map (·.2) := by rw [← e]; exact List.mem_map.mpr ⟨p, hp, rfl⟩
  obtain ⟨q, hq, e2⟩ := List.mem_map.mp z
  rw [← e2]
  exact h q hq
end DL
set_option Elab.async false
set_option linter.all false
set_option maxRecDepth 100000
set_option maxHeartbeats 4000000
namespace DL.K28
open PySem L2 Evl DL
variable [Tbs]
def top (i : Nat) : Stmt := PySem.Challenge.pw_pagesagain_k28_whole_lengths_by_modulus.main.body.getD i (.Pass ⟨0, 0, 0, 0⟩)
def lay_Machine : List Str := ["tables", "deeds", "states"]
def lay_Link : List Str := ["machine", "first", "length", "loss", "modulus"]
abbrev s_is_integer : Stmt := top 12
abbrev s_is_number : Stmt := top 13
abbrev s_is_below : Stmt := top 14
abbrev s_is_within : Stmt := top 15
abbrev s_is_sequence : Stmt := top 16
abbrev s_is_table : Stmt := top 18
abbrev s_check_tables : Stmt := top 19
abbrev s_need_state : Stmt := top 21
abbrev s_last_deeds : Stmt := top 24
abbrev s_page_on : Stmt := top 27
abbrev s_sight_on : Stmt := top 28
abbrev s_sight_rows : Stmt := top 29
abbrev s_sights_within : Stmt := top 32
abbrev s_open_rows : Stmt := top 33
abbrev s_open_paper : Stmt := top 34
abbrev s_Link___init__ : Stmt := inClass (top 23) 0
abbrev s_least_length : Stmt := top 35
abbrev s_is_within_loss : Stmt := top 38
abbrev s_need_loss : Stmt := top 37
abbrev s_rows_count : Stmt := top 40
abbrev s_page_count : Stmt := top 41
abbrev s_lengths_by_modulus : Stmt := top 42
abbrev s__law_box : Stmt := top 44
abbrev s__law_take : Stmt := top 45
abbrev s__law_pick : Stmt := top 46
abbrev s__law_tables : Stmt := top 47
abbrev s__law_led : Stmt := top 48
abbrev s__law_rows : Stmt := top 49
abbrev s__law_right : Stmt := top 52
abbrev s__law_pages : Stmt := top 53
abbrev s__law_curve_right : Stmt := top 54
abbrev s_Machine___init__ : Stmt := inClass (top 20) 0
abbrev s_law : Stmt := top 55
abbrev s__law_heard : Stmt := top 51
def hc__law_heard (C_Machine : Addr) (C_Link : Addr) (C_Refused : Addr) (C_TooGreat : Addr) (C_NoState : Addr) : List Dc := [(.ref C_NoState, [(C_Refused, false), (C_TooGreat, false), (C_NoState, true)], fun a c d => (eTup (aCons (eC (.str "state")) (aCons (eB fRepr (aCons (eXf a c d C_NoState "state" (eVarF 1)) aNil)) aNil)))), (.ref C_TooGreat, [(C_Refused, false), (C_TooGreat, true), (C_NoState, false)], fun a c d => (eTup (aCons (eC (.str "great")) (aCons (eXf a c d C_TooGreat "most" (eVarF 1)) aNil)))), (.ref C_Refused, [(C_Refused, true), (C_TooGreat, false), (C_NoState, false)], fun a c d => (eTup (aCons (eC (.str "refused")) (aCons (eB fRepr (aCons (eXf a c d C_Refused "at" (eVarF 1)) aNil)) aNil))))]
def ds_is_integer (C_Machine : Addr) (C_Link : Addr) (C_Refused : Addr) (C_TooGreat : Addr) (C_NoState : Addr) : DS := (dRet (eAnd (eIs (isTy "int") (eVarF 0)) (eNot (eIs (isTy "bool") (eVarF 0)))))
@[irreducible] def dc_is_integer (C_Machine : Addr) (C_Link : Addr) (C_Refused : Addr) (C_TooGreat : Addr) (C_NoState : Addr) : DC := dcOf (ds_is_integer C_Machine C_Link C_Refused C_TooGreat C_NoState) 1
theorem dm_is_integer {C_Machine : Addr} {C_Link : Addr} {C_Refused : Addr} {C_TooGreat : Addr} {C_NoState : Addr} : MonoC (dc_is_integer C_Machine C_Link C_Refused C_TooGreat C_NoState) := by
  unfold dc_is_integer
  exact mono_dcOf
theorem di_is_integer {C_Machine : Addr} {C_Link : Addr} {C_Refused : Addr} {C_TooGreat : Addr} {C_NoState : Addr} {args : List Sl} {XX : Exn → List Sl → Prop} {R : Rv → List Sl → Prop} (h : ds_is_integer C_Machine C_Link C_Refused C_TooGreat C_NoState (fill 1 args) (postF args XX R)) : dc_is_integer C_Machine C_Link C_Refused C_TooGreat C_NoState args XX R := by
  unfold dc_is_integer
  exact dcOf.intro h
def ds_is_number (C_Machine : Addr) (C_Link : Addr) (C_Refused : Addr) (C_TooGreat : Addr) (C_NoState : Addr) : DS := (dRet (eAnd (eCall 1 (dc_is_integer C_Machine C_Link C_Refused C_TooGreat C_NoState) (aCons (eVarF 0) aNil)) (eOp dGe (eVarF 0) (eC (.int 0)))))
@[irreducible] def dc_is_number (C_Machine : Addr) (C_Link : Addr) (C_Refused : Addr) (C_TooGreat : Addr) (C_NoState : Addr) : DC := dcOf (ds_is_number C_Machine C_Link C_Refused C_TooGreat C_NoState) 1
theorem dm_is_number {C_Machine : Addr} {C_Link : Addr} {C_Refused : Addr} {C_TooGreat : Addr} {C_NoState : Addr} : MonoC (dc_is_number C_Machine C_Link C_Refused C_TooGreat C_NoState) := by
  unfold dc_is_number
  exact mono_dcOf
theorem di_is_number {C_Machine : Addr} {C_Link : Addr} {C_Refused : Addr} {C_TooGreat : Addr} {C_NoState : Addr} {args : List Sl} {XX : Exn → List Sl → Prop} {R : Rv → List Sl → Prop} (h : ds_is_number C_Machine C_Link C_Refused C_TooGreat C_NoState (fill 1 args) (postF args XX R)) : dc_is_number C_Machine C_Link C_Refused C_TooGreat C_NoState args XX R := by
  unfold dc_is_number
  exact dcOf.intro h
def ds_is_below (C_Machine : Addr) (C_Link : Addr) (C_Refused : Addr) (C_TooGreat : Addr) (C_NoState : Addr) : DS := (dRet (eAnd (eCall 1 (dc_is_number C_Machine C_Link C_Refused C_TooGreat C_NoState) (aCons (eVarF 0) aNil)) (eOp dLt (eVarF 0) (eVarF 1))))
@[irreducible] def dc_is_below (C_Machine : Addr) (C_Link : Addr) (C_Refused : Addr) (C_TooGreat : Addr) (C_NoState : Addr) : DC := dcOf (ds_is_below C_Machine C_Link C_Refused C_TooGreat C_NoState) 2
theorem dm_is_below {C_Machine : Addr} {C_Link : Addr} {C_Refused : Addr} {C_TooGreat : Addr} {C_NoState : Addr} : MonoC (dc_is_below C_Machine C_Link C_Refused C_TooGreat C_NoState) := by
  unfold dc_is_below
  exact mono_dcOf
theorem di_is_below {C_Machine : Addr} {C_Link : Addr} {C_Refused : Addr} {C_TooGreat : Addr} {C_NoState : Addr} {args : List Sl} {XX : Exn → List Sl → Prop} {R : Rv → List Sl → Prop} (h : ds_is_below C_Machine C_Link C_Refused C_TooGreat C_NoState (fill 2 args) (postF args XX R)) : dc_is_below C_Machine C_Link C_Refused C_TooGreat C_NoState args XX R := by
  unfold dc_is_below
  exact dcOf.intro h
def ds_is_within (C_Machine : Addr) (C_Link : Addr) (C_Refused : Addr) (C_TooGreat : Addr) (C_NoState : Addr) : DS := (dRet (eAnd (eCall 1 (dc_is_integer C_Machine C_Link C_Refused C_TooGreat C_NoState) (aCons (eVarF 0) aNil)) (eChain dLe dLe (eVarF 1) (eVarF 0) (eVarF 2))))
@[irreducible] def dc_is_within (C_Machine : Addr) (C_Link : Addr) (C_Refused : Addr) (C_TooGreat : Addr) (C_NoState : Addr) : DC := dcOf (ds_is_within C_Machine C_Link C_Refused C_TooGreat C_NoState) 3
theorem dm_is_within {C_Machine : Addr} {C_Link : Addr} {C_Refused : Addr} {C_TooGreat : Addr} {C_NoState : Addr} : MonoC (dc_is_within C_Machine C_Link C_Refused C_TooGreat C_NoState) := by
  unfold dc_is_within
  exact mono_dcOf
theorem di_is_within {C_Machine : Addr} {C_Link : Addr} {C_Refused : Addr} {C_TooGreat : Addr} {C_NoState : Addr} {args : List Sl} {XX : Exn → List Sl → Prop} {R : Rv → List Sl → Prop} (h : ds_is_within C_Machine C_Link C_Refused C_TooGreat C_NoState (fill 3 args) (postF args XX R)) : dc_is_within C_Machine C_Link C_Refused C_TooGreat C_NoState args XX R := by
  unfold dc_is_within
  exact dcOf.intro h
def ds_is_sequence (C_Machine : Addr) (C_Link : Addr) (C_Refused : Addr) (C_TooGreat : Addr) (C_NoState : Addr) : DS := (dRet (eIs (isTy2 "list" "tuple") (eVarF 0)))
@[irreducible] def dc_is_sequence (C_Machine : Addr) (C_Link : Addr) (C_Refused : Addr) (C_TooGreat : Addr) (C_NoState : Addr) : DC := dcOf (ds_is_sequence C_Machine C_Link C_Refused C_TooGreat C_NoState) 1
theorem dm_is_sequence {C_Machine : Addr} {C_Link : Addr} {C_Refused : Addr} {C_TooGreat : Addr} {C_NoState : Addr} : MonoC (dc_is_sequence C_Machine C_Link C_Refused C_TooGreat C_NoState) := by
  unfold dc_is_sequence
  exact mono_dcOf
theorem di_is_sequence {C_Machine : Addr} {C_Link : Addr} {C_Refused : Addr} {C_TooGreat : Addr} {C_NoState : Addr} {args : List Sl} {XX : Exn → List Sl → Prop} {R : Rv → List Sl → Prop} (h : ds_is_sequence C_Machine C_Link C_Refused C_TooGreat C_NoState (fill 1 args) (postF args XX R)) : dc_is_sequence C_Machine C_Link C_Refused C_TooGreat C_NoState args XX R := by
  unfold dc_is_sequence
  exact dcOf.intro h
def ds_is_table (C_Machine : Addr) (C_Link : Addr) (C_Refused : Addr) (C_TooGreat : Addr) (C_NoState : Addr) : DS := (dRet (eAnd (eCall 1 (dc_is_sequence C_Machine C_Link C_Refused C_TooGreat C_NoState) (aCons (eVarF 0) aNil)) (eAnd (eOp (dEqD false) (eB fLen (aCons (eVarF 0) aNil)) (eVarF 1)) (eB fAll (aCons (eFz (nLC (iSeq (eVarF 0)) (dgName 2) bYes (eCall 2 (dc_is_below C_Machine C_Link C_Refused C_TooGreat C_NoState) (aCons (eVarF 2) (aCons (eVarF 1) aNil))) [2])) aNil)))))
@[irreducible] def dc_is_table (C_Machine : Addr) (C_Link : Addr) (C_Refused : Addr) (C_TooGreat : Addr) (C_NoState : Addr) : DC := dcOf (ds_is_table C_Machine C_Link C_Refused C_TooGreat C_NoState) 3
theorem dm_is_table {C_Machine : Addr} {C_Link : Addr} {C_Refused : Addr} {C_TooGreat : Addr} {C_NoState : Addr} : MonoC (dc_is_table C_Machine C_Link C_Refused C_TooGreat C_NoState) := by
  unfold dc_is_table
  exact mono_dcOf
theorem di_is_table {C_Machine : Addr} {C_Link : Addr} {C_Refused : Addr} {C_TooGreat : Addr} {C_NoState : Addr} {args : List Sl} {XX : Exn → List Sl → Prop} {R : Rv → List Sl → Prop} (h : ds_is_table C_Machine C_Link C_Refused C_TooGreat C_NoState (fill 3 args) (postF args XX R)) : dc_is_table C_Machine C_Link C_Refused C_TooGreat C_NoState args XX R := by
  unfold dc_is_table
  exact dcOf.intro h
def ds_check_tables (C_Machine : Addr) (C_Link : Addr) (C_Refused : Addr) (C_TooGreat : Addr) (C_NoState : Addr) : DS := (dSeq (dIf (bOr (bNot (bV (eCall 1 (dc_is_sequence C_Machine C_Link C_Refused C_TooGreat C_NoState) (aCons (eVarF 0) aNil)))) (bNot (bV (eChain dLe dLe (eC (.int 1)) (eB fLen (aCons (eVarF 0) aNil)) (eC (.int 4)))))) dNever dNext) (dSeq (dAsg (eIf (bV (eCall 1 (dc_is_sequence C_Machine C_Link C_Refused C_TooGreat C_NoState) (aCons (eOp dIx (eVarF 0) (eC (.int 0))) aNil))) (eB fLen (aCons (eOp dIx (eVarF 0) (eC (.int 0))) aNil)) (eC (.int 0))) (dgName 1)) (dSeq (dFor (iEn (aCons (eVarF 0) aNil)) (dgTup 2 (dgCons (dgName 2) (dgCons (dgName 3) dgNil))) (dIf (bOr (bNot (bV (eChain dLe dLe (eC (.int 1)) (eVarF 1) (eC (.int 8))))) (bNot (bV (eCall 2 (dc_is_table C_Machine C_Link C_Refused C_TooGreat C_NoState) (aCons (eVarF 3) (aCons (eVarF 1) aNil)))))) dNever dNext)) (dRet (eB fTuple (aCons (eFz (nLC (iSeq (eVarF 0)) (dgName 3) bYes (eB fTuple (aCons (eVarF 3) aNil)) [3])) aNil))))))
@[irreducible] def dc_check_tables (C_Machine : Addr) (C_Link : Addr) (C_Refused : Addr) (C_TooGreat : Addr) (C_NoState : Addr) : DC := dcOf (ds_check_tables C_Machine C_Link C_Refused C_TooGreat C_NoState) 4
theorem dm_check_tables {C_Machine : Addr} {C_Link : Addr} {C_Refused : Addr} {C_TooGreat : Addr} {C_NoState : Addr} : MonoC (dc_check_tables C_Machine C_Link C_Refused C_TooGreat C_NoState) := by
  unfold dc_check_tables
  exact mono_dcOf
theorem di_check_tables {C_Machine : Addr} {C_Link : Addr} {C_Refused : Addr} {C_TooGreat : Addr} {C_NoState : Addr} {args : List Sl} {XX : Exn → List Sl → Prop} {R : Rv → List Sl → Prop} (h : ds_check_tables C_Machine C_Link C_Refused C_TooGreat C_NoState (fill 4 args) (postF args XX R)) : dc_check_tables C_Machine C_Link C_Refused C_TooGreat C_NoState args XX R := by
  unfold dc_check_tables
  exact dcOf.intro h
def ds_need_state (C_Machine : Addr) (C_Link : Addr) (C_Refused : Addr) (C_TooGreat : Addr) (C_NoState : Addr) : DS := (dSeq (dIf (bNot (bV (eCall 2 (dc_is_below C_Machine C_Link C_Refused C_TooGreat C_NoState) (aCons (eVarF 1) (aCons (eAttr C_Machine lay_Machine 2 (eVarF 0)) aNil))))) (dRaise C_NoState "state" (eVarF 1)) dNext) (dRet (eVarF 1)))
@[irreducible] def dc_need_state (C_Machine : Addr) (C_Link : Addr) (C_Refused : Addr) (C_TooGreat : Addr) (C_NoState : Addr) : DC := dcOf (ds_need_state C_Machine C_Link C_Refused C_TooGreat C_NoState) 2
theorem dm_need_state {C_Machine : Addr} {C_Link : Addr} {C_Refused : Addr} {C_TooGreat : Addr} {C_NoState : Addr} : MonoC (dc_need_state C_Machine C_Link C_Refused C_TooGreat C_NoState) := by
  unfold dc_need_state
  exact mono_dcOf
theorem di_need_state {C_Machine : Addr} {C_Link : Addr} {C_Refused : Addr} {C_TooGreat : Addr} {C_NoState : Addr} {args : List Sl} {XX : Exn → List Sl → Prop} {R : Rv → List Sl → Prop} (h : ds_need_state C_Machine C_Link C_Refused C_TooGreat C_NoState (fill 2 args) (postF args XX R)) : dc_need_state C_Machine C_Link C_Refused C_TooGreat C_NoState args XX R := by
  unfold dc_need_state
  exact dcOf.intro h
def ds_last_deeds (C_Machine : Addr) (C_Link : Addr) (C_Refused : Addr) (C_TooGreat : Addr) (C_NoState : Addr) : DS := (dRet (eIf (bV (eOp dGt (eB fLen (aCons (eVarF 0) aNil)) (eVarF 1))) (eSl (eVarF 0) (oSome (eOp dSub (eB fLen (aCons (eVarF 0) aNil)) (eVarF 1))) oNone) (eVarF 0)))
@[irreducible] def dc_last_deeds (C_Machine : Addr) (C_Link : Addr) (C_Refused : Addr) (C_TooGreat : Addr) (C_NoState : Addr) : DC := dcOf (ds_last_deeds C_Machine C_Link C_Refused C_TooGreat C_NoState) 2
theorem dm_last_deeds {C_Machine : Addr} {C_Link : Addr} {C_Refused : Addr} {C_TooGreat : Addr} {C_NoState : Addr} : MonoC (dc_last_deeds C_Machine C_Link C_Refused C_TooGreat C_NoState) := by
  unfold dc_last_deeds
  exact mono_dcOf
theorem di_last_deeds {C_Machine : Addr} {C_Link : Addr} {C_Refused : Addr} {C_TooGreat : Addr} {C_NoState : Addr} {args : List Sl} {XX : Exn → List Sl → Prop} {R : Rv → List Sl → Prop} (h : ds_last_deeds C_Machine C_Link C_Refused C_TooGreat C_NoState (fill 2 args) (postF args XX R)) : dc_last_deeds C_Machine C_Link C_Refused C_TooGreat C_NoState args XX R := by
  unfold dc_last_deeds
  exact dcOf.intro h
def ds_page_on (C_Machine : Addr) (C_Link : Addr) (C_Refused : Addr) (C_TooGreat : Addr) (C_NoState : Addr) : DS := (dRet (eTup (aCons (eCall 2 (dc_last_deeds C_Machine C_Link C_Refused C_TooGreat C_NoState) (aCons (eOp dAdd (eOp dIx (eVarF 1) (eC (.int 0))) (eTup (aCons (eVarF 2) aNil))) (aCons (eFldS C_Link "length" 0) aNil))) (aCons (eOp dMod (eOp dAdd (eOp dIx (eVarF 1) (eC (.int 1))) (eC (.int 1))) (eFldS C_Link "modulus" 0)) aNil))))
@[irreducible] def dc_page_on (C_Machine : Addr) (C_Link : Addr) (C_Refused : Addr) (C_TooGreat : Addr) (C_NoState : Addr) : DC := dcOf (ds_page_on C_Machine C_Link C_Refused C_TooGreat C_NoState) 3
theorem dm_page_on {C_Machine : Addr} {C_Link : Addr} {C_Refused : Addr} {C_TooGreat : Addr} {C_NoState : Addr} : MonoC (dc_page_on C_Machine C_Link C_Refused C_TooGreat C_NoState) := by
  unfold dc_page_on
  exact mono_dcOf
theorem di_page_on {C_Machine : Addr} {C_Link : Addr} {C_Refused : Addr} {C_TooGreat : Addr} {C_NoState : Addr} {args : List Sl} {XX : Exn → List Sl → Prop} {R : Rv → List Sl → Prop} (h : ds_page_on C_Machine C_Link C_Refused C_TooGreat C_NoState (fill 3 args) (postF args XX R)) : dc_page_on C_Machine C_Link C_Refused C_TooGreat C_NoState args XX R := by
  unfold dc_page_on
  exact dcOf.intro h
def ds_sight_on (C_Machine : Addr) (C_Link : Addr) (C_Refused : Addr) (C_TooGreat : Addr) (C_NoState : Addr) : DS := (dRet (eTup (aCons (eOp dIx (eOp dIx (eAttr C_Machine lay_Machine 0 (eFldS C_Link "machine" 0)) (eVarF 2)) (eOp dIx (eVarF 1) (eC (.int 0)))) (aCons (eCall 3 (dc_page_on C_Machine C_Link C_Refused C_TooGreat C_NoState) (aBor 0 (aCons (eOp dIx (eVarF 1) (eC (.int 1))) (aCons (eVarF 2) aNil)))) aNil))))
@[irreducible] def dc_sight_on (C_Machine : Addr) (C_Link : Addr) (C_Refused : Addr) (C_TooGreat : Addr) (C_NoState : Addr) : DC := dcOf (ds_sight_on C_Machine C_Link C_Refused C_TooGreat C_NoState) 3
theorem dm_sight_on {C_Machine : Addr} {C_Link : Addr} {C_Refused : Addr} {C_TooGreat : Addr} {C_NoState : Addr} : MonoC (dc_sight_on C_Machine C_Link C_Refused C_TooGreat C_NoState) := by
  unfold dc_sight_on
  exact mono_dcOf
theorem di_sight_on {C_Machine : Addr} {C_Link : Addr} {C_Refused : Addr} {C_TooGreat : Addr} {C_NoState : Addr} {args : List Sl} {XX : Exn → List Sl → Prop} {R : Rv → List Sl → Prop} (h : ds_sight_on C_Machine C_Link C_Refused C_TooGreat C_NoState (fill 3 args) (postF args XX R)) : dc_sight_on C_Machine C_Link C_Refused C_TooGreat C_NoState args XX R := by
  unfold dc_sight_on
  exact dcOf.intro h
def ds_sight_rows (C_Machine : Addr) (C_Link : Addr) (C_Refused : Addr) (C_TooGreat : Addr) (C_NoState : Addr) : DS := (dSeq (dAsg (eTup (aCons (eFldS C_Link "first" 0) (aCons (eTup (aCons (eTup aNil) (aCons (eC (.int 0)) aNil))) aNil))) (dgName 2)) (dSeq (dOwn (nD1N (eVarF 2) (eTup aNil)) 3) (dSeq (dOwn (nLst (aCons (eVarF 2) aNil)) 4) (dSeq (dAsg (eC (.int 0)) (dgName 5)) (dSeq (dWhile (bV (eOp dLt (eVarF 5) (eLenS 4))) (dSeq (dAsg (eIxS 4 (eVarF 5)) (dgName 6)) (dSeq (dAug 5 (dI0 fun i j => .int (i + j)) (eC (.int 1))) (dFor (iR1 (aCons (eAttr C_Machine lay_Machine 1 (eFldS C_Link "machine" 0)) aNil)) (dgName 7) (dSeq (dAsg (eCall 3 (dc_sight_on C_Machine C_Link C_Refused C_TooGreat C_NoState) (aBor 0 (aCons (eVarF 6) (aCons (eVarF 7) aNil)))) (dgName 8)) (dIf (tInSN true 3 (eVarF 8)) (dSeq (dIf (bV (eOp (dEqD false) (eLenSN 3) (eVarF 1))) (dRaise C_TooGreat "most" (eVarF 1)) dNext) (dSeq (dAsg (eOp dAdd (eGetSN 3 (eVarF 6)) (eTup (aCons (eVarF 7) aNil))) (dgSubN 3 (eVarF 8))) (dApp 4 (eVarF 8)))) dNext)))))) (dRetS 3))))))
@[irreducible] def dc_sight_rows (C_Machine : Addr) (C_Link : Addr) (C_Refused : Addr) (C_TooGreat : Addr) (C_NoState : Addr) : DC := dcOf (ds_sight_rows C_Machine C_Link C_Refused C_TooGreat C_NoState) 9
theorem dm_sight_rows {C_Machine : Addr} {C_Link : Addr} {C_Refused : Addr} {C_TooGreat : Addr} {C_NoState : Addr} : MonoC (dc_sight_rows C_Machine C_Link C_Refused C_TooGreat C_NoState) := by
  unfold dc_sight_rows
  exact mono_dcOf
theorem di_sight_rows {C_Machine : Addr} {C_Link : Addr} {C_Refused : Addr} {C_TooGreat : Addr} {C_NoState : Addr} {args : List Sl} {XX : Exn → List Sl → Prop} {R : Rv → List Sl → Prop} (h : ds_sight_rows C_Machine C_Link C_Refused C_TooGreat C_NoState (fill 9 args) (postF args XX R)) : dc_sight_rows C_Machine C_Link C_Refused C_TooGreat C_NoState args XX R := by
  unfold dc_sight_rows
  exact dcOf.intro h
def ds_sights_within (C_Machine : Addr) (C_Link : Addr) (C_Refused : Addr) (C_TooGreat : Addr) (C_NoState : Addr) : DS := (dSeq (dOwn (nD1N (eVarF 1) (eTup aNil)) 2) (dSeq (dOwn (nLst (aCons (eVarF 1) aNil)) 3) (dSeq (dFor (iR1 (aCons (eFldS C_Link "loss" 0) aNil)) (dgName 4) (dSeq (dOwn (nLst aNil) 5) (dSeq (dFor (iSeq (eVarF 3)) (dgName 6) (dFor (iR1 (aCons (eAttr C_Machine lay_Machine 1 (eFldS C_Link "machine" 0)) aNil)) (dgName 7) (dSeq (dAsg (eCall 3 (dc_sight_on C_Machine C_Link C_Refused C_TooGreat C_NoState) (aBor 0 (aCons (eVarF 6) (aCons (eVarF 7) aNil)))) (dgName 8)) (dIf (tInSN true 2 (eVarF 8)) (dSeq (dAsg (eOp dAdd (eGetSN 2 (eVarF 6)) (eTup (aCons (eVarF 7) aNil))) (dgSubN 2 (eVarF 8))) (dApp 5 (eVarF 8))) dNext)))) (dAsg (eVarF 5) (dgName 3))))) (dRetS 2))))
@[irreducible] def dc_sights_within (C_Machine : Addr) (C_Link : Addr) (C_Refused : Addr) (C_TooGreat : Addr) (C_NoState : Addr) : DC := dcOf (ds_sights_within C_Machine C_Link C_Refused C_TooGreat C_NoState) 9
theorem dm_sights_within {C_Machine : Addr} {C_Link : Addr} {C_Refused : Addr} {C_TooGreat : Addr} {C_NoState : Addr} : MonoC (dc_sights_within C_Machine C_Link C_Refused C_TooGreat C_NoState) := by
  unfold dc_sights_within
  exact mono_dcOf
theorem di_sights_within {C_Machine : Addr} {C_Link : Addr} {C_Refused : Addr} {C_TooGreat : Addr} {C_NoState : Addr} {args : List Sl} {XX : Exn → List Sl → Prop} {R : Rv → List Sl → Prop} (h : ds_sights_within C_Machine C_Link C_Refused C_TooGreat C_NoState (fill 9 args) (postF args XX R)) : dc_sights_within C_Machine C_Link C_Refused C_TooGreat C_NoState args XX R := by
  unfold dc_sights_within
  exact dcOf.intro h
def ds_open_rows (C_Machine : Addr) (C_Link : Addr) (C_Refused : Addr) (C_TooGreat : Addr) (C_NoState : Addr) : DS := (dSeq (dOwn (nC (.dctN [])) 2) (dSeq (dFor (iItN (nCall 2 (dc_sights_within C_Machine C_Link C_Refused C_TooGreat C_NoState) (aBor 0 (aCons (eVarF 1) aNil)))) (dgTup 2 (dgCons (dgTup 2 (dgCons (dgName 4) (dgCons (dgName 5) dgNil))) (dgCons (dgName 3) dgNil))) (dSeq (dIf (tInSN false 2 (eVarF 5)) (dRet (eTup (aCons (eGetSN 2 (eVarF 5)) (aCons (eVarF 3) aNil)))) dNext) (dAsg (eVarF 3) (dgSubN 2 (eVarF 5))))) (dRet (eC .none))))
@[irreducible] def dc_open_rows (C_Machine : Addr) (C_Link : Addr) (C_Refused : Addr) (C_TooGreat : Addr) (C_NoState : Addr) : DC := dcOf (ds_open_rows C_Machine C_Link C_Refused C_TooGreat C_NoState) 6
theorem dm_open_rows {C_Machine : Addr} {C_Link : Addr} {C_Refused : Addr} {C_TooGreat : Addr} {C_NoState : Addr} : MonoC (dc_open_rows C_Machine C_Link C_Refused C_TooGreat C_NoState) := by
  unfold dc_open_rows
  exact mono_dcOf
theorem di_open_rows {C_Machine : Addr} {C_Link : Addr} {C_Refused : Addr} {C_TooGreat : Addr} {C_NoState : Addr} {args : List Sl} {XX : Exn → List Sl → Prop} {R : Rv → List Sl → Prop} (h : ds_open_rows C_Machine C_Link C_Refused C_TooGreat C_NoState (fill 6 args) (postF args XX R)) : dc_open_rows C_Machine C_Link C_Refused C_TooGreat C_NoState args XX R := by
  unfold dc_open_rows
  exact dcOf.intro h
def ds_open_paper (C_Machine : Addr) (C_Link : Addr) (C_Refused : Addr) (C_TooGreat : Addr) (C_NoState : Addr) : DS := (dSeq (dFor (iItN (nCall 2 (dc_sight_rows C_Machine C_Link C_Refused C_TooGreat C_NoState) (aBor 0 (aCons (eVarF 1) aNil)))) (dgTup 2 (dgCons (dgName 2) (dgCons (dgName 3) dgNil))) (dSeq (dAsg (eCall 2 (dc_open_rows C_Machine C_Link C_Refused C_TooGreat C_NoState) (aBor 0 (aCons (eVarF 2) aNil))) (dgName 4)) (dIf (bV (eOp (dIsN true) (eVarF 4) (eC .none))) (dRet (eTup (aCons (eC (.str "runs")) (aCons (eVarF 3) (aCons (eOp dIx (eVarF 4) (eC (.int 0))) (aCons (eOp dIx (eVarF 4) (eC (.int 1))) aNil)))))) dNext))) (dRet (eC .none)))
@[irreducible] def dc_open_paper (C_Machine : Addr) (C_Link : Addr) (C_Refused : Addr) (C_TooGreat : Addr) (C_NoState : Addr) : DC := dcOf (ds_open_paper C_Machine C_Link C_Refused C_TooGreat C_NoState) 5
theorem dm_open_paper {C_Machine : Addr} {C_Link : Addr} {C_Refused : Addr} {C_TooGreat : Addr} {C_NoState : Addr} : MonoC (dc_open_paper C_Machine C_Link C_Refused C_TooGreat C_NoState) := by
  unfold dc_open_paper
  exact mono_dcOf
theorem di_open_paper {C_Machine : Addr} {C_Link : Addr} {C_Refused : Addr} {C_TooGreat : Addr} {C_NoState : Addr} {args : List Sl} {XX : Exn → List Sl → Prop} {R : Rv → List Sl → Prop} (h : ds_open_paper C_Machine C_Link C_Refused C_TooGreat C_NoState (fill 5 args) (postF args XX R)) : dc_open_paper C_Machine C_Link C_Refused C_TooGreat C_NoState args XX R := by
  unfold dc_open_paper
  exact dcOf.intro h
def ds_Link___init__ (C_Machine : Addr) (C_Link : Addr) (C_Refused : Addr) (C_TooGreat : Addr) (C_NoState : Addr) : DS := (dSeq (dDrop (eCall 2 (dc_need_state C_Machine C_Link C_Refused C_TooGreat C_NoState) (aCons (eVarF 1) (aCons (eVarF 2) aNil)))) (dSeq (dIf (bNot (bV (eCall 3 (dc_is_within C_Machine C_Link C_Refused C_TooGreat C_NoState) (aCons (eVarF 3) (aCons (eC (.int 0)) (aCons (eC (.int 12)) aNil)))))) (dRaise C_Refused "at" (eVarF 3)) dNext) (dSeq (dIf (bNot (bV (eCall 3 (dc_is_within C_Machine C_Link C_Refused C_TooGreat C_NoState) (aCons (eVarF 4) (aCons (eC (.int 0)) (aCons (eC (.int 8)) aNil)))))) (dRaise C_Refused "at" (eVarF 4)) dNext) (dSeq (dIf (bNot (bV (eCall 3 (dc_is_within C_Machine C_Link C_Refused C_TooGreat C_NoState) (aCons (eVarF 5) (aCons (eC (.int 1)) (aCons (eC (.int 9)) aNil)))))) (dRaise C_Refused "at" (eVarF 5)) dNext) (dSeq (dFld C_Link "machine" 0 (eVarF 1)) (dSeq (dFld C_Link "first" 0 (eVarF 2)) (dSeq (dFld C_Link "length" 0 (eVarF 3)) (dSeq (dFld C_Link "loss" 0 (eVarF 4)) (dFld C_Link "modulus" 0 (eVarF 5))))))))))
@[irreducible] def dc_Link___init__ (C_Machine : Addr) (C_Link : Addr) (C_Refused : Addr) (C_TooGreat : Addr) (C_NoState : Addr) : DC := dcOf (ds_Link___init__ C_Machine C_Link C_Refused C_TooGreat C_NoState) 6
theorem dm_Link___init__ {C_Machine : Addr} {C_Link : Addr} {C_Refused : Addr} {C_TooGreat : Addr} {C_NoState : Addr} : MonoC (dc_Link___init__ C_Machine C_Link C_Refused C_TooGreat C_NoState) := by
  unfold dc_Link___init__
  exact mono_dcOf
theorem di_Link___init__ {C_Machine : Addr} {C_Link : Addr} {C_Refused : Addr} {C_TooGreat : Addr} {C_NoState : Addr} {args : List Sl} {XX : Exn → List Sl → Prop} {R : Rv → List Sl → Prop} (h : ds_Link___init__ C_Machine C_Link C_Refused C_TooGreat C_NoState (fill 6 args) (postF args XX R)) : dc_Link___init__ C_Machine C_Link C_Refused C_TooGreat C_NoState args XX R := by
  unfold dc_Link___init__
  exact dcOf.intro h
def ds_least_length (C_Machine : Addr) (C_Link : Addr) (C_Refused : Addr) (C_TooGreat : Addr) (C_NoState : Addr) : DS := (dSeq (dOwn (nMake C_Link 6 (dc_Link___init__ C_Machine C_Link C_Refused C_TooGreat C_NoState) (aCons (eVarF 0) (aCons (eVarF 1) (aCons (eC (.int 0)) (aCons (eVarF 2) (aCons (eVarF 3) aNil)))))) 5) (dSeq (dFor (iR1 (aCons (eOp dAdd (eOp dMul (eOp dSub (eAttr C_Machine lay_Machine 2 (eVarF 0)) (eC (.int 1))) (eVarF 2)) (eC (.int 1))) aNil)) (dgName 6) (dSeq (dFld C_Link "length" 5 (eVarF 6)) (dIf (bV (eOp (dIsN false) (eCall 2 (dc_open_paper C_Machine C_Link C_Refused C_TooGreat C_NoState) (aBor 5 (aCons (eVarF 4) aNil))) (eC .none))) (dRet (eVarF 6)) dNext))) (dRet (eC .none))))
@[irreducible] def dc_least_length (C_Machine : Addr) (C_Link : Addr) (C_Refused : Addr) (C_TooGreat : Addr) (C_NoState : Addr) : DC := dcOf (ds_least_length C_Machine C_Link C_Refused C_TooGreat C_NoState) 7
theorem dm_least_length {C_Machine : Addr} {C_Link : Addr} {C_Refused : Addr} {C_TooGreat : Addr} {C_NoState : Addr} : MonoC (dc_least_length C_Machine C_Link C_Refused C_TooGreat C_NoState) := by
  unfold dc_least_length
  exact mono_dcOf
theorem di_least_length {C_Machine : Addr} {C_Link : Addr} {C_Refused : Addr} {C_TooGreat : Addr} {C_NoState : Addr} {args : List Sl} {XX : Exn → List Sl → Prop} {R : Rv → List Sl → Prop} (h : ds_least_length C_Machine C_Link C_Refused C_TooGreat C_NoState (fill 7 args) (postF args XX R)) : dc_least_length C_Machine C_Link C_Refused C_TooGreat C_NoState args XX R := by
  unfold dc_least_length
  exact dcOf.intro h
def ds_is_within_loss (C_Machine : Addr) (C_Link : Addr) (C_Refused : Addr) (C_TooGreat : Addr) (C_NoState : Addr) : DS := (dRet (eCall 3 (dc_is_within C_Machine C_Link C_Refused C_TooGreat C_NoState) (aCons (eVarF 0) (aCons (eC (.int 0)) (aCons (eC (.int 8)) aNil)))))
@[irreducible] def dc_is_within_loss (C_Machine : Addr) (C_Link : Addr) (C_Refused : Addr) (C_TooGreat : Addr) (C_NoState : Addr) : DC := dcOf (ds_is_within_loss C_Machine C_Link C_Refused C_TooGreat C_NoState) 1
theorem dm_is_within_loss {C_Machine : Addr} {C_Link : Addr} {C_Refused : Addr} {C_TooGreat : Addr} {C_NoState : Addr} : MonoC (dc_is_within_loss C_Machine C_Link C_Refused C_TooGreat C_NoState) := by
  unfold dc_is_within_loss
  exact mono_dcOf
theorem di_is_within_loss {C_Machine : Addr} {C_Link : Addr} {C_Refused : Addr} {C_TooGreat : Addr} {C_NoState : Addr} {args : List Sl} {XX : Exn → List Sl → Prop} {R : Rv → List Sl → Prop} (h : ds_is_within_loss C_Machine C_Link C_Refused C_TooGreat C_NoState (fill 1 args) (postF args XX R)) : dc_is_within_loss C_Machine C_Link C_Refused C_TooGreat C_NoState args XX R := by
  unfold dc_is_within_loss
  exact dcOf.intro h
def ds_need_loss (C_Machine : Addr) (C_Link : Addr) (C_Refused : Addr) (C_TooGreat : Addr) (C_NoState : Addr) : DS := (dSeq (dIf (bNot (bV (eCall 1 (dc_is_within_loss C_Machine C_Link C_Refused C_TooGreat C_NoState) (aCons (eVarF 0) aNil)))) (dRaise C_Refused "at" (eVarF 0)) dNext) (dRet (eVarF 0)))
@[irreducible] def dc_need_loss (C_Machine : Addr) (C_Link : Addr) (C_Refused : Addr) (C_TooGreat : Addr) (C_NoState : Addr) : DC := dcOf (ds_need_loss C_Machine C_Link C_Refused C_TooGreat C_NoState) 1
theorem dm_need_loss {C_Machine : Addr} {C_Link : Addr} {C_Refused : Addr} {C_TooGreat : Addr} {C_NoState : Addr} : MonoC (dc_need_loss C_Machine C_Link C_Refused C_TooGreat C_NoState) := by
  unfold dc_need_loss
  exact mono_dcOf
theorem di_need_loss {C_Machine : Addr} {C_Link : Addr} {C_Refused : Addr} {C_TooGreat : Addr} {C_NoState : Addr} {args : List Sl} {XX : Exn → List Sl → Prop} {R : Rv → List Sl → Prop} (h : ds_need_loss C_Machine C_Link C_Refused C_TooGreat C_NoState (fill 1 args) (postF args XX R)) : dc_need_loss C_Machine C_Link C_Refused C_TooGreat C_NoState args XX R := by
  unfold dc_need_loss
  exact dcOf.intro h
def ds_rows_count (C_Machine : Addr) (C_Link : Addr) (C_Refused : Addr) (C_TooGreat : Addr) (C_NoState : Addr) : DS := (dSeq (dAsg (eC (.int 1)) (dgName 2)) (dSeq (dFor (iR1 (aCons (eVarF 1) aNil)) (dgName 3) (dAsg (eOp dMul (eVarF 2) (eAttr C_Machine lay_Machine 1 (eVarF 0))) (dgName 2))) (dRet (eVarF 2))))
@[irreducible] def dc_rows_count (C_Machine : Addr) (C_Link : Addr) (C_Refused : Addr) (C_TooGreat : Addr) (C_NoState : Addr) : DC := dcOf (ds_rows_count C_Machine C_Link C_Refused C_TooGreat C_NoState) 4
theorem dm_rows_count {C_Machine : Addr} {C_Link : Addr} {C_Refused : Addr} {C_TooGreat : Addr} {C_NoState : Addr} : MonoC (dc_rows_count C_Machine C_Link C_Refused C_TooGreat C_NoState) := by
  unfold dc_rows_count
  exact mono_dcOf
theorem di_rows_count {C_Machine : Addr} {C_Link : Addr} {C_Refused : Addr} {C_TooGreat : Addr} {C_NoState : Addr} {args : List Sl} {XX : Exn → List Sl → Prop} {R : Rv → List Sl → Prop} (h : ds_rows_count C_Machine C_Link C_Refused C_TooGreat C_NoState (fill 4 args) (postF args XX R)) : dc_rows_count C_Machine C_Link C_Refused C_TooGreat C_NoState args XX R := by
  unfold dc_rows_count
  exact dcOf.intro h
def ds_page_count (C_Machine : Addr) (C_Link : Addr) (C_Refused : Addr) (C_TooGreat : Addr) (C_NoState : Addr) : DS := (dSeq (dAsg (eB fSum (aCons (eFz (nLC (iR1 (aCons (eAttr C_Link lay_Link 2 (eVarF 0)) aNil)) (dgName 2) bYes (eCall 2 (dc_rows_count C_Machine C_Link C_Refused C_TooGreat C_NoState) (aCons (eAttr C_Link lay_Link 0 (eVarF 0)) (aCons (eVarF 2) aNil))) [2])) aNil)) (dgName 1)) (dRet (eOp dAdd (eVarF 1) (eOp dMul (eAttr C_Link lay_Link 4 (eVarF 0)) (eCall 2 (dc_rows_count C_Machine C_Link C_Refused C_TooGreat C_NoState) (aCons (eAttr C_Link lay_Link 0 (eVarF 0)) (aCons (eAttr C_Link lay_Link 2 (eVarF 0)) aNil)))))))
@[irreducible] def dc_page_count (C_Machine : Addr) (C_Link : Addr) (C_Refused : Addr) (C_TooGreat : Addr) (C_NoState : Addr) : DC := dcOf (ds_page_count C_Machine C_Link C_Refused C_TooGreat C_NoState) 3
theorem dm_page_count {C_Machine : Addr} {C_Link : Addr} {C_Refused : Addr} {C_TooGreat : Addr} {C_NoState : Addr} : MonoC (dc_page_count C_Machine C_Link C_Refused C_TooGreat C_NoState) := by
  unfold dc_page_count
  exact mono_dcOf
theorem di_page_count {C_Machine : Addr} {C_Link : Addr} {C_Refused : Addr} {C_TooGreat : Addr} {C_NoState : Addr} {args : List Sl} {XX : Exn → List Sl → Prop} {R : Rv → List Sl → Prop} (h : ds_page_count C_Machine C_Link C_Refused C_TooGreat C_NoState (fill 3 args) (postF args XX R)) : dc_page_count C_Machine C_Link C_Refused C_TooGreat C_NoState args XX R := by
  unfold dc_page_count
  exact dcOf.intro h
def ds_lengths_by_modulus (C_Machine : Addr) (C_Link : Addr) (C_Refused : Addr) (C_TooGreat : Addr) (C_NoState : Addr) : DS := (dSeq (dDrop (eCall 2 (dc_need_state C_Machine C_Link C_Refused C_TooGreat C_NoState) (aCons (eVarF 0) (aCons (eVarF 1) aNil)))) (dSeq (dDrop (eCall 1 (dc_need_loss C_Machine C_Link C_Refused C_TooGreat C_NoState) (aCons (eVarF 2) aNil))) (dRet (eB fTuple (aCons (eFz (nLC (iR2 (aCons (eC (.int 1)) (aCons (eOp dAdd (eVarF 2) (eC (.int 2))) aNil))) (dgName 3) bYes (eCall 5 (dc_least_length C_Machine C_Link C_Refused C_TooGreat C_NoState) (aApp (aCons (eVarF 0) (aCons (eVarF 1) (aCons (eVarF 2) (aCons (eVarF 3) aNil)))) [.int 4000])) [3])) aNil)))))
@[irreducible] def dc_lengths_by_modulus (C_Machine : Addr) (C_Link : Addr) (C_Refused : Addr) (C_TooGreat : Addr) (C_NoState : Addr) : DC := dcOf (ds_lengths_by_modulus C_Machine C_Link C_Refused C_TooGreat C_NoState) 4
theorem dm_lengths_by_modulus {C_Machine : Addr} {C_Link : Addr} {C_Refused : Addr} {C_TooGreat : Addr} {C_NoState : Addr} : MonoC (dc_lengths_by_modulus C_Machine C_Link C_Refused C_TooGreat C_NoState) := by
  unfold dc_lengths_by_modulus
  exact mono_dcOf
theorem di_lengths_by_modulus {C_Machine : Addr} {C_Link : Addr} {C_Refused : Addr} {C_TooGreat : Addr} {C_NoState : Addr} {args : List Sl} {XX : Exn → List Sl → Prop} {R : Rv → List Sl → Prop} (h : ds_lengths_by_modulus C_Machine C_Link C_Refused C_TooGreat C_NoState (fill 4 args) (postF args XX R)) : dc_lengths_by_modulus C_Machine C_Link C_Refused C_TooGreat C_NoState args XX R := by
  unfold dc_lengths_by_modulus
  exact dcOf.intro h
def ds__law_box (C_Machine : Addr) (C_Link : Addr) (C_Refused : Addr) (C_TooGreat : Addr) (C_NoState : Addr) : DS := (dSeq (dAsg (eOp dAdd (eOp dMul (eC (.int 6899)) (eVarF 1)) (eC (.int 919))) (dgName 2)) (dSeq (dIf (bV (eOp dLt (eVarF 1) (eB fLen (aCons (eVarF 0) aNil)))) (dAsg (eB fAbs (aCons (eB fInt (aCons (eOp dIx (eVarF 0) (eVarF 1)) aNil)) aNil)) (dgName 2)) (dIf (bV (eOp dGt (eB fLen (aCons (eVarF 0) aNil)) (eC (.int 0)))) (dAsg (eOp dAdd (eVarF 2) (eOp dMul (eOp dMod (eB fInt (aCons (eB fAbs (aCons (eB fInt (aCons (eOp dIx (eVarF 0) (eOp dMod (eB fInt (aCons (eVarF 1) aNil)) (eB fLen (aCons (eVarF 0) aNil)))) aNil)) aNil)) aNil)) (eC (.int 2147483587))) (eC (.int 52631)))) (dgName 2)) dNext)) (dSeq (dAsg (eIf (bV (eOp dGe (eVarF 2) (eOp dPow (eC (.int 10)) (eC (.int 18))))) (eVarF 2) (eC (.int 0))) (dgName 3)) (dRetN (nLst (aCons (eVarF 3) (aCons (eOp dAdd (eOp dMod (eB fInt (aCons (eOp dAdd (eOp dMul (eOp dMod (eB fInt (aCons (eVarF 2) aNil)) (eC (.int 2147483587))) (eC (.int 69069))) (eOp dMul (eC (.int 919)) (eVarF 1))) aNil)) (eC (.int 2147483587))) (eC (.int 1))) aNil)))))))
@[irreducible] def dc__law_box (C_Machine : Addr) (C_Link : Addr) (C_Refused : Addr) (C_TooGreat : Addr) (C_NoState : Addr) : DC := dcOf (ds__law_box C_Machine C_Link C_Refused C_TooGreat C_NoState) 4
theorem dm__law_box {C_Machine : Addr} {C_Link : Addr} {C_Refused : Addr} {C_TooGreat : Addr} {C_NoState : Addr} : MonoC (dc__law_box C_Machine C_Link C_Refused C_TooGreat C_NoState) := by
  unfold dc__law_box
  exact mono_dcOf
theorem di__law_box {C_Machine : Addr} {C_Link : Addr} {C_Refused : Addr} {C_TooGreat : Addr} {C_NoState : Addr} {args : List Sl} {XX : Exn → List Sl → Prop} {R : Rv → List Sl → Prop} (h : ds__law_box C_Machine C_Link C_Refused C_TooGreat C_NoState (fill 4 args) (postF args XX R)) : dc__law_box C_Machine C_Link C_Refused C_TooGreat C_NoState args XX R := by
  unfold dc__law_box
  exact dcOf.intro h
def ds__law_take (C_Machine : Addr) (C_Link : Addr) (C_Refused : Addr) (C_TooGreat : Addr) (C_NoState : Addr) : DS := (dSeq (dIf (bV (eOp dGt (eIxS 0 (eC (.int 0))) (eC (.int 0)))) (dSeq (dAsg (eOp dMod (eB fInt (aCons (eIxS 0 (eC (.int 0))) aNil)) (eVarF 1)) (dgName 3)) (dSeq (dAsg (eOp dFdiv (eIxS 0 (eC (.int 0))) (eVarF 1)) (dgSub 0 (eC (.int 0)))) (dRet (eVarF 3)))) dNext) (dSeq (dAsg (eOp dMod (eB fInt (aCons (eOp dAdd (eOp dMul (eIxS 0 (eC (.int 1))) (eC (.int 40692))) (eC (.int 97))) aNil)) (eC (.int 2147483399))) (dgName 2)) (dSeq (dAsg (eOp dAdd (eOp dMod (eB fInt (aCons (eOp dAdd (eOp dMul (eVarF 2) (eC (.int 40014))) (eC (.int 11))) aNil)) (eC (.int 2147483587))) (eC (.int 1))) (dgSub 0 (eC (.int 1)))) (dRet (eOp dMod (eB fInt (aCons (eOp dFdiv (eOp dAdd (eOp dMul (eVarF 2) (eC (.int 2147483629))) (eIxS 0 (eC (.int 1)))) (eC (.int 8209))) aNil)) (eVarF 1))))))
@[irreducible] def dc__law_take (C_Machine : Addr) (C_Link : Addr) (C_Refused : Addr) (C_TooGreat : Addr) (C_NoState : Addr) : DC := dcOf (ds__law_take C_Machine C_Link C_Refused C_TooGreat C_NoState) 4
theorem dm__law_take {C_Machine : Addr} {C_Link : Addr} {C_Refused : Addr} {C_TooGreat : Addr} {C_NoState : Addr} : MonoC (dc__law_take C_Machine C_Link C_Refused C_TooGreat C_NoState) := by
  unfold dc__law_take
  exact mono_dcOf
theorem di__law_take {C_Machine : Addr} {C_Link : Addr} {C_Refused : Addr} {C_TooGreat : Addr} {C_NoState : Addr} {args : List Sl} {XX : Exn → List Sl → Prop} {R : Rv → List Sl → Prop} (h : ds__law_take C_Machine C_Link C_Refused C_TooGreat C_NoState (fill 4 args) (postF args XX R)) : dc__law_take C_Machine C_Link C_Refused C_TooGreat C_NoState args XX R := by
  unfold dc__law_take
  exact dcOf.intro h
def ds__law_pick (C_Machine : Addr) (C_Link : Addr) (C_Refused : Addr) (C_TooGreat : Addr) (C_NoState : Addr) : DS := (dRet (eOp dIx (eVarF 1) (eCall 2 (dc__law_take C_Machine C_Link C_Refused C_TooGreat C_NoState) (aBor 0 (aCons (eB fLen (aCons (eVarF 1) aNil)) aNil)))))
@[irreducible] def dc__law_pick (C_Machine : Addr) (C_Link : Addr) (C_Refused : Addr) (C_TooGreat : Addr) (C_NoState : Addr) : DC := dcOf (ds__law_pick C_Machine C_Link C_Refused C_TooGreat C_NoState) 2
theorem dm__law_pick {C_Machine : Addr} {C_Link : Addr} {C_Refused : Addr} {C_TooGreat : Addr} {C_NoState : Addr} : MonoC (dc__law_pick C_Machine C_Link C_Refused C_TooGreat C_NoState) := by
  unfold dc__law_pick
  exact mono_dcOf
theorem di__law_pick {C_Machine : Addr} {C_Link : Addr} {C_Refused : Addr} {C_TooGreat : Addr} {C_NoState : Addr} {args : List Sl} {XX : Exn → List Sl → Prop} {R : Rv → List Sl → Prop} (h : ds__law_pick C_Machine C_Link C_Refused C_TooGreat C_NoState (fill 2 args) (postF args XX R)) : dc__law_pick C_Machine C_Link C_Refused C_TooGreat C_NoState args XX R := by
  unfold dc__law_pick
  exact dcOf.intro h
def ds__law_tables (C_Machine : Addr) (C_Link : Addr) (C_Refused : Addr) (C_TooGreat : Addr) (C_NoState : Addr) : DS := (dSeq (dPar [4, 5] (mD (eOp dAdd (eC (.int 1)) (eCall 2 (dc__law_take C_Machine C_Link C_Refused C_TooGreat C_NoState) (aBor 0 (aCons (eVarF 1) aNil)))) (mN (nLst aNil) mNil))) (dSeq (dFor (iR1 (aCons (eOp dAdd (eC (.int 1)) (eCall 2 (dc__law_take C_Machine C_Link C_Refused C_TooGreat C_NoState) (aBor 0 (aCons (eVarF 2) aNil)))) aNil)) (dgName 3) (dSeq (dPar [7, 8] (mD (eCall 2 (dc__law_take C_Machine C_Link C_Refused C_TooGreat C_NoState) (aBor 0 (aCons (eC (.int 6)) aNil))) (mD (eCall 2 (dc__law_take C_Machine C_Link C_Refused C_TooGreat C_NoState) (aBor 0 (aCons (eVarF 4) aNil))) mNil))) (dSeq (dOwn (nLC (iR1 (aCons (eVarF 4) aNil)) (dgName 9) bYes (eCall 2 (dc__law_take C_Machine C_Link C_Refused C_TooGreat C_NoState) (aBor 0 (aCons (eVarF 4) aNil))) [9]) 6) (dSeq (dIf (bV (eOp (dEqD false) (eVarF 7) (eC (.int 0)))) (dOwn (nLC (iR1 (aCons (eVarF 4) aNil)) (dgName 9) bYes (eB fMin (aCons (eOp dSub (eVarF 4) (eC (.int 1))) (aCons (eOp dAdd (eVarF 9) (eC (.int 1))) aNil))) [9]) 6) dNext) (dSeq (dIf (bV (eOp (dEqD false) (eVarF 7) (eC (.int 1)))) (dAsg (eOp dMul (eLst (aCons (eVarF 8) aNil)) (eVarF 4)) (dgName 6)) dNext) (dSeq (dIf (bV (eOp (dEqD false) (eVarF 7) (eC (.int 2)))) (dOwn (nLC (iR1 (aCons (eVarF 4) aNil)) (dgName 9) bYes (eB fMax (aCons (eVarF 9) (aCons (eVarF 8) aNil))) [9]) 6) dNext) (dSeq (dIf (bV (eOp (dEqD false) (eVarF 7) (eC (.int 3)))) (dOwn (nLC (iR1 (aCons (eVarF 4) aNil)) (dgName 9) bYes (eB fMax (aCons (eVarF 9) (aCons (eOp dIx (eVarF 6) (eVarF 9)) aNil))) [9]) 6) dNext) (dSeq (dIf (bAnd (bV (eOp (dEqD false) (eVarF 7) (eC (.int 4)))) (bV (eOp (dEqD false) (eCall 2 (dc__law_take C_Machine C_Link C_Refused C_TooGreat C_NoState) (aBor 0 (aCons (eC (.int 2)) aNil))) (eC (.int 0))))) (dOwn (nLC (iR1 (aCons (eVarF 4) aNil)) (dgName 9) bYes (eOp dMod (eB fInt (aCons (eOp dAdd (eVarF 9) (eVarF 8)) aNil)) (eVarF 4)) [9]) 6) dNext) (dApp 5 (eB fTuple (aCons (eVarF 6) aNil))))))))))) (dRet (eVarF 5))))
@[irreducible] def dc__law_tables (C_Machine : Addr) (C_Link : Addr) (C_Refused : Addr) (C_TooGreat : Addr) (C_NoState : Addr) : DC := dcOf (ds__law_tables C_Machine C_Link C_Refused C_TooGreat C_NoState) 10
theorem dm__law_tables {C_Machine : Addr} {C_Link : Addr} {C_Refused : Addr} {C_TooGreat : Addr} {C_NoState : Addr} : MonoC (dc__law_tables C_Machine C_Link C_Refused C_TooGreat C_NoState) := by
  unfold dc__law_tables
  exact mono_dcOf
theorem di__law_tables {C_Machine : Addr} {C_Link : Addr} {C_Refused : Addr} {C_TooGreat : Addr} {C_NoState : Addr} {args : List Sl} {XX : Exn → List Sl → Prop} {R : Rv → List Sl → Prop} (h : ds__law_tables C_Machine C_Link C_Refused C_TooGreat C_NoState (fill 10 args) (postF args XX R)) : dc__law_tables C_Machine C_Link C_Refused C_TooGreat C_NoState args XX R := by
  unfold dc__law_tables
  exact dcOf.intro h
def ds__law_led (C_Machine : Addr) (C_Link : Addr) (C_Refused : Addr) (C_TooGreat : Addr) (C_NoState : Addr) : DS := (dSeq (dFor (iSeq (eVarF 2)) (dgName 3) (dAsg (eOp dIx (eOp dIx (eVarF 0) (eVarF 3)) (eVarF 1)) (dgName 1))) (dRet (eVarF 1)))
@[irreducible] def dc__law_led (C_Machine : Addr) (C_Link : Addr) (C_Refused : Addr) (C_TooGreat : Addr) (C_NoState : Addr) : DC := dcOf (ds__law_led C_Machine C_Link C_Refused C_TooGreat C_NoState) 4
theorem dm__law_led {C_Machine : Addr} {C_Link : Addr} {C_Refused : Addr} {C_TooGreat : Addr} {C_NoState : Addr} : MonoC (dc__law_led C_Machine C_Link C_Refused C_TooGreat C_NoState) := by
  unfold dc__law_led
  exact mono_dcOf
theorem di__law_led {C_Machine : Addr} {C_Link : Addr} {C_Refused : Addr} {C_TooGreat : Addr} {C_NoState : Addr} {args : List Sl} {XX : Exn → List Sl → Prop} {R : Rv → List Sl → Prop} (h : ds__law_led C_Machine C_Link C_Refused C_TooGreat C_NoState (fill 4 args) (postF args XX R)) : dc__law_led C_Machine C_Link C_Refused C_TooGreat C_NoState args XX R := by
  unfold dc__law_led
  exact dcOf.intro h
def ds__law_rows (C_Machine : Addr) (C_Link : Addr) (C_Refused : Addr) (C_TooGreat : Addr) (C_NoState : Addr) : DS := (dSeq (dOwn (nLst (aCons (eTup aNil) aNil)) 2) (dSeq (dFor (iR1 (aCons (eVarF 1) aNil)) (dgName 3) (dSeq (dOwn (nLst aNil) 4) (dSeq (dFor (iSeq (eVarF 2)) (dgName 5) (dAsg (eOp dAdd (eVarF 4) (eFz (nLC (iR1 (aCons (eVarF 0) aNil)) (dgName 6) bYes (eOp dAdd (eVarF 5) (eTup (aCons (eVarF 6) aNil))) [6]))) (dgName 4))) (dAsg (eVarF 4) (dgName 2))))) (dRet (eVarF 2))))
@[irreducible] def dc__law_rows (C_Machine : Addr) (C_Link : Addr) (C_Refused : Addr) (C_TooGreat : Addr) (C_NoState : Addr) : DC := dcOf (ds__law_rows C_Machine C_Link C_Refused C_TooGreat C_NoState) 7
theorem dm__law_rows {C_Machine : Addr} {C_Link : Addr} {C_Refused : Addr} {C_TooGreat : Addr} {C_NoState : Addr} : MonoC (dc__law_rows C_Machine C_Link C_Refused C_TooGreat C_NoState) := by
  unfold dc__law_rows
  exact mono_dcOf
theorem di__law_rows {C_Machine : Addr} {C_Link : Addr} {C_Refused : Addr} {C_TooGreat : Addr} {C_NoState : Addr} {args : List Sl} {XX : Exn → List Sl → Prop} {R : Rv → List Sl → Prop} (h : ds__law_rows C_Machine C_Link C_Refused C_TooGreat C_NoState (fill 7 args) (postF args XX R)) : dc__law_rows C_Machine C_Link C_Refused C_TooGreat C_NoState args XX R := by
  unfold dc__law_rows
  exact dcOf.intro h
def ds__law_right (C_Machine : Addr) (C_Link : Addr) (C_Refused : Addr) (C_TooGreat : Addr) (C_NoState : Addr) : DS := (dSeq (dPar [8, 9, 10] (mD (eB fLen (aCons (eVarF 0) aNil)) (mN (nLst (aCons (eTup (aCons (eVarF 1) (aCons (eTup aNil) aNil))) aNil)) (mN (nD1N (eTup (aCons (eVarF 1) (aCons (eTup aNil) aNil))) (eC (.bool true))) mNil)))) (dSeq (dOwn (nLst aNil) 5) (dSeq (dFor (iR1 (aCons (eOp dAdd (eVarF 3) (eC (.int 1))) aNil)) (dgName 6) (dAsg (eOp dAdd (eVarF 5) (eCall 2 (dc__law_rows C_Machine C_Link C_Refused C_TooGreat C_NoState) (aCons (eVarF 8) (aCons (eVarF 6) aNil)))) (dgName 5))) (dSeq (dFor (iR1 (aCons (eC (.int 4000)) aNil)) (dgName 7) (dSeq (dIf (bV (eOp (dEqD false) (eVarF 7) (eLenS 9))) (dRet (eC (.bool true))) dNext) (dSeq (dAsg (eIxS 9 (eVarF 7)) (dgTup 2 (dgCons (dgName 14) (dgCons (dgName 15) dgNil)))) (dSeq (dOwn (nC (.dctN [])) 11) (dSeq (dFor (iSeq (eVarF 5)) (dgName 12) (dSeq (dAsg (eSl (eOp dAdd (eVarF 15) (eVarF 12)) (oSome (eB fMax (aCons (eC (.int 0)) (aCons (eOp dSub (eB fLen (aCons (eOp dAdd (eVarF 15) (eVarF 12)) aNil)) (eVarF 2)) aNil)))) oNone) (dgName 16)) (dSeq (dAsg (eTup (aCons (eVarF 16) (aCons (eIf (bV (eOp (dEqD false) (eB fLen (aCons (eVarF 16) aNil)) (eVarF 2))) (eOp dMod (eB fInt (aCons (eB fLen (aCons (eVarF 12) aNil)) aNil)) (eVarF 4)) (eC .none)) aNil))) (dgName 17)) (dSeq (dAsg (eCall 3 (dc__law_led C_Machine C_Link C_Refused C_TooGreat C_NoState) (aCons (eVarF 0) (aCons (eVarF 14) (aCons (eVarF 12) aNil)))) (dgName 18)) (dIf (bV (eOp (dEqD true) (eSetdN 11 (eVarF 17) (eVarF 18)) (eVarF 18))) (dRet (eC (.bool false))) dNext))))) (dFor (iR1 (aCons (eVarF 8) aNil)) (dgName 13) (dSeq (dAsg (eTup (aCons (eOp dIx (eOp dIx (eVarF 0) (eVarF 13)) (eVarF 14)) (aCons (eSl (eOp dAdd (eVarF 15) (eTup (aCons (eVarF 13) aNil))) (oSome (eB fMax (aCons (eC (.int 0)) (aCons (eOp dSub (eOp dAdd (eB fLen (aCons (eVarF 15) aNil)) (eC (.int 1))) (eVarF 2)) aNil)))) oNone) aNil))) (dgName 19)) (dIf (tInSN true 10 (eVarF 19)) (dSeq (dAsg (eC (.bool true)) (dgSubN 10 (eVarF 19))) (dApp 9 (eVarF 19))) dNext)))))))) (dRet (eC .none))))))
@[irreducible] def dc__law_right (C_Machine : Addr) (C_Link : Addr) (C_Refused : Addr) (C_TooGreat : Addr) (C_NoState : Addr) : DC := dcOf (ds__law_right C_Machine C_Link C_Refused C_TooGreat C_NoState) 20
theorem dm__law_right {C_Machine : Addr} {C_Link : Addr} {C_Refused : Addr} {C_TooGreat : Addr} {C_NoState : Addr} : MonoC (dc__law_right C_Machine C_Link C_Refused C_TooGreat C_NoState) := by
  unfold dc__law_right
  exact mono_dcOf
theorem di__law_right {C_Machine : Addr} {C_Link : Addr} {C_Refused : Addr} {C_TooGreat : Addr} {C_NoState : Addr} {args : List Sl} {XX : Exn → List Sl → Prop} {R : Rv → List Sl → Prop} (h : ds__law_right C_Machine C_Link C_Refused C_TooGreat C_NoState (fill 20 args) (postF args XX R)) : dc__law_right C_Machine C_Link C_Refused C_TooGreat C_NoState args XX R := by
  unfold dc__law_right
  exact dcOf.intro h
def ds__law_pages (C_Machine : Addr) (C_Link : Addr) (C_Refused : Addr) (C_TooGreat : Addr) (C_NoState : Addr) : DS := (dSeq (dOwn (nC (.dctN [])) 3) (dSeq (dFor (iR1 (aCons (eOp dAdd (eVarF 1) (eVarF 2)) aNil)) (dgName 4) (dFor (iSeq (eCall 2 (dc__law_rows C_Machine C_Link C_Refused C_TooGreat C_NoState) (aCons (eB fLen (aCons (eVarF 0) aNil)) (aCons (eVarF 4) aNil)))) (dgName 5) (dAsg (eC (.bool true)) (dgSubN 3 (eTup (aCons (eSl (eVarF 5) (oSome (eB fMax (aCons (eC (.int 0)) (aCons (eOp dSub (eVarF 4) (eVarF 1)) aNil)))) oNone) (aCons (eOp dMod (eB fInt (aCons (eVarF 4) aNil)) (eVarF 2)) aNil))))))) (dRet (eLenSN 3))))
@[irreducible] def dc__law_pages (C_Machine : Addr) (C_Link : Addr) (C_Refused : Addr) (C_TooGreat : Addr) (C_NoState : Addr) : DC := dcOf (ds__law_pages C_Machine C_Link C_Refused C_TooGreat C_NoState) 6
theorem dm__law_pages {C_Machine : Addr} {C_Link : Addr} {C_Refused : Addr} {C_TooGreat : Addr} {C_NoState : Addr} : MonoC (dc__law_pages C_Machine C_Link C_Refused C_TooGreat C_NoState) := by
  unfold dc__law_pages
  exact mono_dcOf
theorem di__law_pages {C_Machine : Addr} {C_Link : Addr} {C_Refused : Addr} {C_TooGreat : Addr} {C_NoState : Addr} {args : List Sl} {XX : Exn → List Sl → Prop} {R : Rv → List Sl → Prop} (h : ds__law_pages C_Machine C_Link C_Refused C_TooGreat C_NoState (fill 6 args) (postF args XX R)) : dc__law_pages C_Machine C_Link C_Refused C_TooGreat C_NoState args XX R := by
  unfold dc__law_pages
  exact dcOf.intro h
def ds__law_curve_right (C_Machine : Addr) (C_Link : Addr) (C_Refused : Addr) (C_TooGreat : Addr) (C_NoState : Addr) : DS := (dSeq (dIf (bOr (bNot (bV (eIs (isTy "tuple") (eVarF 3)))) (bV (eOp (dEqD true) (eB fLen (aCons (eVarF 3) aNil)) (eOp dAdd (eVarF 2) (eC (.int 1)))))) (dRet (eC (.bool false))) dNext) (dSeq (dFor (iR2 (aCons (eC (.int 1)) (aCons (eOp dAdd (eVarF 2) (eC (.int 2))) aNil))) (dgName 4) (dSeq (dPar [7, 8] (mD (eOp dIx (eVarF 3) (eOp dSub (eVarF 4) (eC (.int 1)))) (mD (eB fMax (aCons (eVarF 2) (aCons (eOp dMul (eOp dSub (eB fLen (aCons (eOp dIx (eVarF 0) (eC (.int 0))) aNil)) (eC (.int 1))) (eVarF 2)) aNil))) mNil))) (dSeq (dOwn (nLC (iR1 (aCons (eOp dAdd (eVarF 8) (eC (.int 1))) aNil)) (dgName 9) (bV (eCall 5 (dc__law_right C_Machine C_Link C_Refused C_TooGreat C_NoState) (aCons (eVarF 0) (aCons (eVarF 1) (aCons (eVarF 9) (aCons (eVarF 2) (aCons (eVarF 4) aNil))))))) (eVarF 9) [9]) 5) (dSeq (dIf (bOr (bV (eOp (dEqD true) (eB fRepr (aCons (eVarF 7) aNil)) (eB fRepr (aCons (eIf (bV (eOp (dEqD true) (eVarF 5) (eLst aNil))) (eOp dIx (eVarF 5) (eC (.int 0))) (eC .none)) aNil)))) (bAnd (bV (eOp (dEqD true) (eVarF 5) (eLst aNil))) (bV (eOp (dEqD true) (eVarF 5) (eLr2 (eOp dIx (eVarF 5) (eC (.int 0))) (eOp dAdd (eVarF 8) (eC (.int 1)))))))) (dRet (eC (.bool false))) dNext) (dFor (iR2 (aCons (eVarF 4) (aCons (eOp dAdd (eVarF 2) (eC (.int 2))) aNil))) (dgName 6) (dIf (bAnd (bV (eOp (dEqD false) (eOp dMod (eB fInt (aCons (eVarF 6) aNil)) (eVarF 4)) (eC (.int 0)))) (bAnd (bV (eOp (dIsN true) (eVarF 7) (eC .none))) (bOr (bV (eOp (dIsN false) (eOp dIx (eVarF 3) (eOp dSub (eVarF 6) (eC (.int 1)))) (eC .none))) (bV (eOp dGt (eOp dIx (eVarF 3) (eOp dSub (eVarF 6) (eC (.int 1)))) (eVarF 7)))))) (dRet (eC (.bool false))) dNext)))))) (dRet (eAnd (eOp (dIsN true) (eOp dIx (eVarF 3) (eVarF 2)) (eC .none)) (eOp dLe (eOp dIx (eVarF 3) (eVarF 2)) (eVarF 2))))))
@[irreducible] def dc__law_curve_right (C_Machine : Addr) (C_Link : Addr) (C_Refused : Addr) (C_TooGreat : Addr) (C_NoState : Addr) : DC := dcOf (ds__law_curve_right C_Machine C_Link C_Refused C_TooGreat C_NoState) 10
theorem dm__law_curve_right {C_Machine : Addr} {C_Link : Addr} {C_Refused : Addr} {C_TooGreat : Addr} {C_NoState : Addr} : MonoC (dc__law_curve_right C_Machine C_Link C_Refused C_TooGreat C_NoState) := by
  unfold dc__law_curve_right
  exact mono_dcOf
theorem di__law_curve_right {C_Machine : Addr} {C_Link : Addr} {C_Refused : Addr} {C_TooGreat : Addr} {C_NoState : Addr} {args : List Sl} {XX : Exn → List Sl → Prop} {R : Rv → List Sl → Prop} (h : ds__law_curve_right C_Machine C_Link C_Refused C_TooGreat C_NoState (fill 10 args) (postF args XX R)) : dc__law_curve_right C_Machine C_Link C_Refused C_TooGreat C_NoState args XX R := by
  unfold dc__law_curve_right
  exact dcOf.intro h
def ds_Machine___init__ (C_Machine : Addr) (C_Link : Addr) (C_Refused : Addr) (C_TooGreat : Addr) (C_NoState : Addr) : DS := (dSeq (dFld C_Machine "tables" 0 (eCall 1 (dc_check_tables C_Machine C_Link C_Refused C_TooGreat C_NoState) (aCons (eVarF 1) aNil))) (dSeq (dFld C_Machine "deeds" 0 (eB fLen (aCons (eFldS C_Machine "tables" 0) aNil))) (dFld C_Machine "states" 0 (eB fLen (aCons (eOp dIx (eFldS C_Machine "tables" 0) (eC (.int 0))) aNil)))))
@[irreducible] def dc_Machine___init__ (C_Machine : Addr) (C_Link : Addr) (C_Refused : Addr) (C_TooGreat : Addr) (C_NoState : Addr) : DC := dcOf (ds_Machine___init__ C_Machine C_Link C_Refused C_TooGreat C_NoState) 2
theorem dm_Machine___init__ {C_Machine : Addr} {C_Link : Addr} {C_Refused : Addr} {C_TooGreat : Addr} {C_NoState : Addr} : MonoC (dc_Machine___init__ C_Machine C_Link C_Refused C_TooGreat C_NoState) := by
  unfold dc_Machine___init__
  exact mono_dcOf
theorem di_Machine___init__ {C_Machine : Addr} {C_Link : Addr} {C_Refused : Addr} {C_TooGreat : Addr} {C_NoState : Addr} {args : List Sl} {XX : Exn → List Sl → Prop} {R : Rv → List Sl → Prop} (h : ds_Machine___init__ C_Machine C_Link C_Refused C_TooGreat C_NoState (fill 2 args) (postF args XX R)) : dc_Machine___init__ C_Machine C_Link C_Refused C_TooGreat C_NoState args XX R := by
  unfold dc_Machine___init__
  exact dcOf.intro h
def ds_law (C_Machine : Addr) (C_Link : Addr) (C_Refused : Addr) (C_TooGreat : Addr) (C_NoState : Addr) : DS := (dSeq (dFor (iR1 (aCons (eC (.int 2)) aNil)) (dgName 1) (dSeq (dOwn (nCall 2 (dc__law_box C_Machine C_Link C_Refused C_TooGreat C_NoState) (aCons (eVarF 0) (aCons (eVarF 1) aNil))) 2) (dSeq (dAsg (eCall 3 (dc__law_tables C_Machine C_Link C_Refused C_TooGreat C_NoState) (aBor 2 (aCons (eC (.int 4)) (aCons (eC (.int 2)) aNil)))) (dgName 3)) (dSeq (dPar [5, 6, 7] (mD (eFz (nMake C_Machine 2 (dc_Machine___init__ C_Machine C_Link C_Refused C_TooGreat C_NoState) (aCons (eVarF 3) aNil))) (mD (eCall 2 (dc__law_take C_Machine C_Link C_Refused C_TooGreat C_NoState) (aBor 2 (aCons (eB fLen (aCons (eOp dIx (eVarF 3) (eC (.int 0))) aNil)) aNil))) (mD (eCall 2 (dc__law_take C_Machine C_Link C_Refused C_TooGreat C_NoState) (aBor 2 (aCons (eC (.int 3)) aNil))) mNil)))) (dSeq (dAsg (eCall 3 (dc_lengths_by_modulus C_Machine C_Link C_Refused C_TooGreat C_NoState) (aCons (eVarF 5) (aCons (eVarF 6) (aCons (eVarF 7) aNil)))) (dgName 4)) (dSeq (dIf (bOr (bNot (bV (eCall 4 (dc__law_curve_right C_Machine C_Link C_Refused C_TooGreat C_NoState) (aCons (eVarF 3) (aCons (eVarF 6) (aCons (eVarF 7) (aCons (eVarF 4) aNil))))))) (bV (eOp (dEqD true) (eCallK 3 3 [2, 1, 0] (dc_lengths_by_modulus C_Machine C_Link C_Refused C_TooGreat C_NoState) (aCons (eVarF 7) (aCons (eVarF 6) (aCons (eVarF 5) aNil)))) (eVarF 4)))) (dRet (eC (.bool false))) dNext) (dSeq (dPar [8, 9] (mD (eCall 2 (dc__law_take C_Machine C_Link C_Refused C_TooGreat C_NoState) (aBor 2 (aCons (eC (.int 5)) aNil))) (mD (eOp dAdd (eC (.int 1)) (eCall 2 (dc__law_take C_Machine C_Link C_Refused C_TooGreat C_NoState) (aBor 2 (aCons (eC (.int 3)) aNil)))) mNil))) (dSeq (dPar [10, 11] (mD (eFz (nMake C_Link 6 (dc_Link___init__ C_Machine C_Link C_Refused C_TooGreat C_NoState) (aCons (eVarF 5) (aCons (eVarF 6) (aCons (eVarF 8) (aCons (eVarF 7) (aCons (eVarF 9) aNil))))))) (mD (eCall 3 (dc__law_pages C_Machine C_Link C_Refused C_TooGreat C_NoState) (aCons (eVarF 3) (aCons (eVarF 8) (aCons (eVarF 9) aNil)))) mNil))) (dSeq (dIf (bV (eOp (dEqD true) (eB fRepr (aCons (eLst (aCons (eCall 1 (dc_page_count C_Machine C_Link C_Refused C_TooGreat C_NoState) (aCons (eVarF 10) aNil)) (aCons (eCallK 1 1 [0] (dc_page_count C_Machine C_Link C_Refused C_TooGreat C_NoState) (aCons (eVarF 10) aNil)) aNil))) aNil)) (eB fRepr (aCons (eLst (aCons (eVarF 11) (aCons (eVarF 11) aNil))) aNil)))) (dRet (eC (.bool false))) dNext) (dSeq (dPar [12, 13] (mD (eCall 2 (dc__law_pick C_Machine C_Link C_Refused C_TooGreat C_NoState) (aBor 2 (aCons (eLst (aCons (eB fLen (aCons (eOp dIx (eVarF 3) (eC (.int 0))) aNil)) (aCons (eOp dSub (eC (.int 0)) (eC (.int 1))) (aCons (eC .none) (aCons (eC (.bool true)) (aCons (eC (.str "0")) aNil)))))) aNil))) (mD (eCall 2 (dc__law_pick C_Machine C_Link C_Refused C_TooGreat C_NoState) (aBor 2 (aCons (eLst (aCons (eOp dSub (eC (.int 0)) (eC (.int 1))) (aCons (eC (.int 9)) (aCons (eC .none) (aCons (eC (.bool true)) (aCons (eC (.str "0")) aNil)))))) aNil))) mNil))) (dSeq (dIf (bV (eOp (dEqD true) (eHeard "told" 2 1 (hc__law_heard C_Machine C_Link C_Refused C_TooGreat C_NoState) (eCall 3 (dc_lengths_by_modulus C_Machine C_Link C_Refused C_TooGreat C_NoState) (aCons (eVarF 5) (aCons (eVarF 12) (aCons (eVarF 13) aNil))))) (eTup (aCons (eC (.str "state")) (aCons (eB fRepr (aCons (eVarF 12) aNil)) aNil))))) (dRet (eC (.bool false))) dNext) (dIf (bV (eOp (dEqD true) (eHeard "told" 2 1 (hc__law_heard C_Machine C_Link C_Refused C_TooGreat C_NoState) (eCall 3 (dc_lengths_by_modulus C_Machine C_Link C_Refused C_TooGreat C_NoState) (aCons (eVarF 5) (aCons (eVarF 6) (aCons (eVarF 13) aNil))))) (eTup (aCons (eC (.str "refused")) (aCons (eB fRepr (aCons (eVarF 13) aNil)) aNil))))) (dRet (eC (.bool false))) dNext)))))))))))) (dRet (eC (.bool true))))
@[irreducible] def dc_law (C_Machine : Addr) (C_Link : Addr) (C_Refused : Addr) (C_TooGreat : Addr) (C_NoState : Addr) : DC := dcOf (ds_law C_Machine C_Link C_Refused C_TooGreat C_NoState) 14
theorem dm_law {C_Machine : Addr} {C_Link : Addr} {C_Refused : Addr} {C_TooGreat : Addr} {C_NoState : Addr} : MonoC (dc_law C_Machine C_Link C_Refused C_TooGreat C_NoState) := by
  unfold dc_law
  exact mono_dcOf
theorem di_law {C_Machine : Addr} {C_Link : Addr} {C_Refused : Addr} {C_TooGreat : Addr} {C_NoState : Addr} {args : List Sl} {XX : Exn → List Sl → Prop} {R : Rv → List Sl → Prop} (h : ds_law C_Machine C_Link C_Refused C_TooGreat C_NoState (fill 14 args) (postF args XX R)) : dc_law C_Machine C_Link C_Refused C_TooGreat C_NoState args XX R := by
  unfold dc_law
  exact dcOf.intro h
end DL.K28
set_option Elab.async false
set_option linter.all false
set_option maxRecDepth 100000
set_option maxHeartbeats 0
namespace DL.K28
open PySem PySem.Spec PyProof.Rows L2 DL
def d_is_integer : He.DefD := ⟨("is_integer", none), "is_integer", "is_integer", defArgs s_is_integer, defBody s_is_integer, defScope s_is_integer, [], []⟩
def d_is_number : He.DefD := ⟨("is_number", none), "is_number", "is_number", defArgs s_is_number, defBody s_is_number, defScope s_is_number, [], []⟩
def d_is_below : He.DefD := ⟨("is_below", none), "is_below", "is_below", defArgs s_is_below, defBody s_is_below, defScope s_is_below, [], []⟩
def d_is_within : He.DefD := ⟨("is_within", none), "is_within", "is_within", defArgs s_is_within, defBody s_is_within, defScope s_is_within, [], []⟩
def d_is_sequence : He.DefD := ⟨("is_sequence", none), "is_sequence", "is_sequence", defArgs s_is_sequence, defBody s_is_sequence, defScope s_is_sequence, [], []⟩
def d_is_table : He.DefD := ⟨("is_table", none), "is_table", "is_table", defArgs s_is_table, defBody s_is_table, defScope s_is_table, [], []⟩
def d_check_tables : He.DefD := ⟨("check_tables", none), "check_tables", "check_tables", defArgs s_check_tables, defBody s_check_tables, defScope s_check_tables, [], []⟩
def d_need_state : He.DefD := ⟨("need_state", none), "need_state", "need_state", defArgs s_need_state, defBody s_need_state, defScope s_need_state, [], []⟩
def d_last_deeds : He.DefD := ⟨("last_deeds", none), "last_deeds", "last_deeds", defArgs s_last_deeds, defBody s_last_deeds, defScope s_last_deeds, [], []⟩
def d_page_on : He.DefD := ⟨("page_on", none), "page_on", "page_on", defArgs s_page_on, defBody s_page_on, defScope s_page_on, [], []⟩
def d_sight_on : He.DefD := ⟨("sight_on", none), "sight_on", "sight_on", defArgs s_sight_on, defBody s_sight_on, defScope s_sight_on, [], []⟩
def d_sight_rows : He.DefD := ⟨("sight_rows", none), "sight_rows", "sight_rows", defArgs s_sight_rows, defBody s_sight_rows, defScope s_sight_rows, [.int 4000], []⟩
def d_sights_within : He.DefD := ⟨("sights_within", none), "sights_within", "sights_within", defArgs s_sights_within, defBody s_sights_within, defScope s_sights_within, [], []⟩
def d_open_rows : He.DefD := ⟨("open_rows", none), "open_rows", "open_rows", defArgs s_open_rows, defBody s_open_rows, defScope s_open_rows, [], []⟩
def d_open_paper : He.DefD := ⟨("open_paper", none), "open_paper", "open_paper", defArgs s_open_paper, defBody s_open_paper, defScope s_open_paper, [], []⟩
def d_Link___init__ : He.DefD := ⟨("Link", some "__init__"), "__init__", "Link.__init__", defArgs s_Link___init__, defBody s_Link___init__, defScope s_Link___init__, [.int 1], []⟩
def d_least_length : He.DefD := ⟨("least_length", none), "least_length", "least_length", defArgs s_least_length, defBody s_least_length, defScope s_least_length, [.int 1], [("most", .int 4000)]⟩
def d_is_within_loss : He.DefD := ⟨("is_within_loss", none), "is_within_loss", "is_within_loss", defArgs s_is_within_loss, defBody s_is_within_loss, defScope s_is_within_loss, [], []⟩
def d_need_loss : He.DefD := ⟨("need_loss", none), "need_loss", "need_loss", defArgs s_need_loss, defBody s_need_loss, defScope s_need_loss, [], []⟩
def d_rows_count : He.DefD := ⟨("rows_count", none), "rows_count", "rows_count", defArgs s_rows_count, defBody s_rows_count, defScope s_rows_count, [], []⟩
def d_page_count : He.DefD := ⟨("page_count", none), "page_count", "page_count", defArgs s_page_count, defBody s_page_count, defScope s_page_count, [], []⟩
def d_lengths_by_modulus : He.DefD := ⟨("lengths_by_modulus", none), "lengths_by_modulus", "lengths_by_modulus", defArgs s_lengths_by_modulus, defBody s_lengths_by_modulus, defScope s_lengths_by_modulus, [], []⟩
def d__law_box : He.DefD := ⟨("_law_box", none), "_law_box", "_law_box", defArgs s__law_box, defBody s__law_box, defScope s__law_box, [], []⟩
def d__law_take : He.DefD := ⟨("_law_take", none), "_law_take", "_law_take", defArgs s__law_take, defBody s__law_take, defScope s__law_take, [], []⟩
def d__law_pick : He.DefD := ⟨("_law_pick", none), "_law_pick", "_law_pick", defArgs s__law_pick, defBody s__law_pick, defScope s__law_pick, [], []⟩
def d__law_tables : He.DefD := ⟨("_law_tables", none), "_law_tables", "_law_tables", defArgs s__law_tables, defBody s__law_tables, defScope s__law_tables, [], []⟩
def d__law_led : He.DefD := ⟨("_law_led", none), "_law_led", "_law_led", defArgs s__law_led, defBody s__law_led, defScope s__law_led, [], []⟩
def d__law_rows : He.DefD := ⟨("_law_rows", none), "_law_rows", "_law_rows", defArgs s__law_rows, defBody s__law_rows, defScope s__law_rows, [], []⟩
def d__law_right : He.DefD := ⟨("_law_right", none), "_law_right", "_law_right", defArgs s__law_right, defBody s__law_right, defScope s__law_right, [], []⟩
def d__law_pages : He.DefD := ⟨("_law_pages", none), "_law_pages", "_law_pages", defArgs s__law_pages, defBody s__law_pages, defScope s__law_pages, [], []⟩
def d__law_curve_right : He.DefD := ⟨("_law_curve_right", none), "_law_curve_right", "_law_curve_right", defArgs s__law_curve_right, defBody s__law_curve_right, defScope s__law_curve_right, [], []⟩
def d_Machine___init__ : He.DefD := ⟨("Machine", some "__init__"), "__init__", "Machine.__init__", defArgs s_Machine___init__, defBody s_Machine___init__, defScope s_Machine___init__, [], []⟩
def d_law : He.DefD := ⟨("law", none), "law", "law", defArgs s_law, defBody s_law, defScope s_law, [], []⟩
def d__law_heard : He.DefD := ⟨("_law_heard", none), "_law_heard", "_law_heard", defArgs s__law_heard, defBody s__law_heard, defScope s__law_heard, [], []⟩
abbrev s_in_Refused : Stmt := inClass (top 3) 0
def in_Refused : DL.InD := ⟨"Refused", "Refused.__init__", defArgs s_in_Refused, defBody s_in_Refused, defScope s_in_Refused, "ValueError", "ValueError.__new__", "ValueError.__init__", vaTail, "at"⟩
theorem ok_in_Refused : DL.InOk PySem.Challenge.rw_pagesagain_k28_whole_lengths_by_modulus.prog in_Refused "self" "at" "no such value here" := ⟨xb_Value, ⟨_, _, _, _, _, _, _, _, _, _, _, by rfl, by decide +kernel⟩, ⟨_, by rfl, by rfl⟩, by decide +kernel, by decide +kernel, by decide +kernel, by decide, fun _ _ _ _ _ _ _ _ _ => by rfl⟩
abbrev s_in_TooGreat : Stmt := inClass (top 4) 0
def in_TooGreat : DL.InD := ⟨"TooGreat", "TooGreat.__init__", defArgs s_in_TooGreat, defBody s_in_TooGreat, defScope s_in_TooGreat, "ValueError", "ValueError.__new__", "ValueError.__init__", vaTail, "most"⟩
theorem ok_in_TooGreat : DL.InOk PySem.Challenge.rw_pagesagain_k28_whole_lengths_by_modulus.prog in_TooGreat "self" "most" "more than is looked at" := ⟨xb_Value, ⟨_, _, _, _, _, _, _, _, _, _, _, by rfl, by decide +kernel⟩, ⟨_, by rfl, by rfl⟩, by decide +kernel, by decide +kernel, by decide +kernel, by decide, fun _ _ _ _ _ _ _ _ _ => by rfl⟩
abbrev s_in_NoState : Stmt := inClass (top 5) 0
def in_NoState : DL.InD := ⟨"NoState", "NoState.__init__", defArgs s_in_NoState, defBody s_in_NoState, defScope s_in_NoState, "KeyError", "LookupError.__new__", "KeyError.__init__", keTail, "state"⟩
theorem ok_in_NoState : DL.InOk PySem.Challenge.rw_pagesagain_k28_whole_lengths_by_modulus.prog in_NoState "self" "state" "no such state" := ⟨xb_Key, ⟨_, _, _, _, _, _, _, _, _, _, _, by rfl, by decide +kernel⟩, ⟨_, by rfl, by rfl⟩, by decide +kernel, by decide +kernel, by decide +kernel, by decide, fun _ _ _ _ _ _ _ _ _ => by rfl⟩
def fnL0 : List He.DefD := [d_is_integer, d_is_number, d_is_below, d_is_within, d_is_sequence, d_is_table, d_check_tables, d_need_state, d_last_deeds, d_page_on, d_sight_on, d_sight_rows, d_sights_within, d_open_rows, d_open_paper, d_Link___init__, d_least_length, d_is_within_loss, d_need_loss, d_rows_count, d_page_count, d_lengths_by_modulus, d__law_box, d__law_take, d__law_pick, d__law_tables, d__law_led, d__law_rows, d__law_right, d__law_pages]
def fnL1 : List He.DefD := [d__law_curve_right, d_Machine___init__, d_law, d__law_heard]
def fnL : List He.DefD := fnL0 ++ fnL1
def faL0 : List He.Fa := [.free "abs", .free "all", .free "bool", .free "enumerate", .free "int", .free "isinstance", .free "len", .free "list", .free "max", .free "min", .free "range", .free "repr", .free "sum", .free "tuple", .int "MOST_DEEDS" 4, .int "MOST_LENGTH" 12, .int "MOST_LOSS" 8, .int "MOST_MODULUS" 9, .int "MOST_STATES" 8, .str "RUNS" "runs", .glo "is_integer", .glo "is_number", .glo "is_below", .glo "is_within", .glo "is_sequence", .glo "is_table", .glo "check_tables", .glo "need_state", .glo "last_deeds", .glo "page_on"]
def faL1 : List He.Fa := [.glo "sight_on", .glo "sight_rows", .glo "sights_within", .glo "open_rows", .glo "open_paper", .glo "least_length", .glo "is_within_loss", .glo "need_loss", .glo "rows_count", .glo "page_count", .glo "lengths_by_modulus", .glo "_law_box", .glo "_law_take", .glo "_law_pick", .glo "_law_tables", .glo "_law_led", .glo "_law_rows", .glo "_law_right", .glo "_law_pages", .glo "_law_curve_right", .glo "law", .glo "_law_heard", .glo "Machine", .cls "Machine", .noat "Machine" "tables", .noat "Machine" "deeds", .noat "Machine" "states", .mkr "Machine", .glo "Link", .cls "Link"]
def faL2 : List He.Fa := [.noat "Link" "machine", .noat "Link" "first", .noat "Link" "length", .noat "Link" "loss", .noat "Link" "modulus", .mkr "Link", .glo "Refused", .free "super", .glo "TooGreat", .glo "NoState", .exm "NoState" "Refused" false, .exm "TooGreat" "Refused" false, .exm "Refused" "Refused" true, .exm "NoState" "TooGreat" false, .exm "TooGreat" "TooGreat" true, .exm "Refused" "TooGreat" false, .exm "NoState" "NoState" true, .exm "TooGreat" "NoState" false, .exm "Refused" "NoState" false]
def faL : List He.Fa := faL0 ++ faL1 ++ faL2
def looseL0 : List Str := ["PageError", "BadMachine", "Refused", "TooGreat", "NoState", "MOST_DEEDS", "MOST_STATES", "MOST_LENGTH", "MOST_LOSS", "MOST_MODULUS", "is_integer", "is_number", "is_below", "is_within", "is_sequence", "is_table", "check_tables", "Machine", "need_state", "Link", "last_deeds", "MOST_SIGHTS", "page_on", "sight_on", "sight_rows", "RUNS", "sights_within", "open_rows", "open_paper", "least_length"]
def looseL1 : List Str := ["need_loss", "is_within_loss", "rows_count", "page_count", "lengths_by_modulus", "_law_box", "_law_take", "_law_pick", "_law_tables", "_law_led", "_law_rows", "_law_reached", "_law_heard", "_law_right", "_law_pages", "_law_curve_right"]
def looseL : List Str := looseL0 ++ looseL1
abbrev rowL : PySem.W.OpenLaw := PySem.Challenge.rw_pagesagain_k28_whole_lengths_by_modulus
abbrev rowR : PySem.W.OpenRow := PySem.W.OpenLaw.row rowL
def hdL : DL.HdD := ⟨faL, fnL, [in_Refused, in_TooGreat, in_NoState], [("law", none)]⟩
abbrev hkL : PySem.W.Hook := DL.hookY rowL.prog 5 hdL
def obL (s : PySem.W.SharedT) : DL.AlY := DL.obsY rowL.prog 5 hdL (HandSHeadRun.getT s)
theorem obL_eq (s : PySem.W.SharedT) : obL s = hkL.obs s.abs := DL.obsY_eq (HandSHeadRun.getT_eq s)
theorem runL (w : World) : HandSHeadRun.RunEq rowR (PySem.W.view rowR.prog [55]) hkL obL 3000 looseL w := by
  intro os
  kernel_rfl
end DL.K28
set_option Elab.async false
set_option linter.all false
set_option maxRecDepth 100000
set_option maxHeartbeats 4000000
namespace DL.K28
open PySem L2 Evl DL
variable [Tbs]
structure G (P : Program) (K : PySem.W.Frag) (mg : Str → Option Value) (C_Machine : Addr) (C_Link : Addr) (C_Refused : Addr) (C_TooGreat : Addr) (C_NoState : Addr) where
  b_abs : mg "abs" = none
  b_all : mg "all" = none
  b_bool : mg "bool" = none
  b_enumerate : mg "enumerate" = none
  b_int : mg "int" = none
  b_isinstance : mg "isinstance" = none
  b_len : mg "len" = none
  b_list : mg "list" = none
  b_max : mg "max" = none
  b_min : mg "min" = none
  b_range : mg "range" = none
  b_repr : mg "repr" = none
  b_sum : mg "sum" = none
  b_tuple : mg "tuple" = none
  u_MOST_DEEDS : Value
  g_MOST_DEEDS : mg "MOST_DEEDS" = some u_MOST_DEEDS ∧ ∃ t, u_MOST_DEEDS = .int 4 t
  u_MOST_LENGTH : Value
  g_MOST_LENGTH : mg "MOST_LENGTH" = some u_MOST_LENGTH ∧ ∃ t, u_MOST_LENGTH = .int 12 t
  u_MOST_LOSS : Value
  g_MOST_LOSS : mg "MOST_LOSS" = some u_MOST_LOSS ∧ ∃ t, u_MOST_LOSS = .int 8 t
  u_MOST_MODULUS : Value
  g_MOST_MODULUS : mg "MOST_MODULUS" = some u_MOST_MODULUS ∧ ∃ t, u_MOST_MODULUS = .int 9 t
  u_MOST_STATES : Value
  g_MOST_STATES : mg "MOST_STATES" = some u_MOST_STATES ∧ ∃ t, u_MOST_STATES = .int 8 t
  u_RUNS : Value
  g_RUNS : mg "RUNS" = some u_RUNS ∧ ∃ t, u_RUNS = .str "runs" t
  f_is_integer : Addr
  fd_is_integer : FuncData
  F_is_integer : FunD K "is_integer" "is_integer" (defArgs s_is_integer) (defBody s_is_integer) (defScope s_is_integer) [] [] f_is_integer fd_is_integer
  m_is_integer : mg "is_integer" = some (.ref f_is_integer)
  f_is_number : Addr
  fd_is_number : FuncData
  F_is_number : FunD K "is_number" "is_number" (defArgs s_is_number) (defBody s_is_number) (defScope s_is_number) [] [] f_is_number fd_is_number
  m_is_number : mg "is_number" = some (.ref f_is_number)
  f_is_below : Addr
  fd_is_below : FuncData
  F_is_below : FunD K "is_below" "is_below" (defArgs s_is_below) (defBody s_is_below) (defScope s_is_below) [] [] f_is_below fd_is_below
  m_is_below : mg "is_below" = some (.ref f_is_below)
  f_is_within : Addr
  fd_is_within : FuncData
  F_is_within : FunD K "is_within" "is_within" (defArgs s_is_within) (defBody s_is_within) (defScope s_is_within) [] [] f_is_within fd_is_within
  m_is_within : mg "is_within" = some (.ref f_is_within)
  f_is_sequence : Addr
  fd_is_sequence : FuncData
  F_is_sequence : FunD K "is_sequence" "is_sequence" (defArgs s_is_sequence) (defBody s_is_sequence) (defScope s_is_sequence) [] [] f_is_sequence fd_is_sequence
  m_is_sequence : mg "is_sequence" = some (.ref f_is_sequence)
  f_is_table : Addr
  fd_is_table : FuncData
  F_is_table : FunD K "is_table" "is_table" (defArgs s_is_table) (defBody s_is_table) (defScope s_is_table) [] [] f_is_table fd_is_table
  m_is_table : mg "is_table" = some (.ref f_is_table)
  f_check_tables : Addr
  fd_check_tables : FuncData
  F_check_tables : FunD K "check_tables" "check_tables" (defArgs s_check_tables) (defBody s_check_tables) (defScope s_check_tables) [] [] f_check_tables fd_check_tables
  m_check_tables : mg "check_tables" = some (.ref f_check_tables)
  f_need_state : Addr
  fd_need_state : FuncData
  F_need_state : FunD K "need_state" "need_state" (defArgs s_need_state) (defBody s_need_state) (defScope s_need_state) [] [] f_need_state fd_need_state
  m_need_state : mg "need_state" = some (.ref f_need_state)
  f_last_deeds : Addr
  fd_last_deeds : FuncData
  F_last_deeds : FunD K "last_deeds" "last_deeds" (defArgs s_last_deeds) (defBody s_last_deeds) (defScope s_last_deeds) [] [] f_last_deeds fd_last_deeds
  m_last_deeds : mg "last_deeds" = some (.ref f_last_deeds)
  f_page_on : Addr
  fd_page_on : FuncData
  F_page_on : FunD K "page_on" "page_on" (defArgs s_page_on) (defBody s_page_on) (defScope s_page_on) [] [] f_page_on fd_page_on
  m_page_on : mg "page_on" = some (.ref f_page_on)
  f_sight_on : Addr
  fd_sight_on : FuncData
  F_sight_on : FunD K "sight_on" "sight_on" (defArgs s_sight_on) (defBody s_sight_on) (defScope s_sight_on) [] [] f_sight_on fd_sight_on
  m_sight_on : mg "sight_on" = some (.ref f_sight_on)
  f_sight_rows : Addr
  fd_sight_rows : FuncData
  F_sight_rows : FunD K "sight_rows" "sight_rows" (defArgs s_sight_rows) (defBody s_sight_rows) (defScope s_sight_rows) [V.int 4000] [] f_sight_rows fd_sight_rows
  m_sight_rows : mg "sight_rows" = some (.ref f_sight_rows)
  f_sights_within : Addr
  fd_sights_within : FuncData
  F_sights_within : FunD K "sights_within" "sights_within" (defArgs s_sights_within) (defBody s_sights_within) (defScope s_sights_within) [] [] f_sights_within fd_sights_within
  m_sights_within : mg "sights_within" = some (.ref f_sights_within)
  f_open_rows : Addr
  fd_open_rows : FuncData
  F_open_rows : FunD K "open_rows" "open_rows" (defArgs s_open_rows) (defBody s_open_rows) (defScope s_open_rows) [] [] f_open_rows fd_open_rows
  m_open_rows : mg "open_rows" = some (.ref f_open_rows)
  f_open_paper : Addr
  fd_open_paper : FuncData
  F_open_paper : FunD K "open_paper" "open_paper" (defArgs s_open_paper) (defBody s_open_paper) (defScope s_open_paper) [] [] f_open_paper fd_open_paper
  m_open_paper : mg "open_paper" = some (.ref f_open_paper)
  f_Link___init__ : Addr
  fd_Link___init__ : FuncData
  F_Link___init__ : FunD K "__init__" "Link.__init__" (defArgs s_Link___init__) (defBody s_Link___init__) (defScope s_Link___init__) [V.int 1] [] f_Link___init__ fd_Link___init__
  f_least_length : Addr
  fd_least_length : FuncData
  F_least_length : FunD K "least_length" "least_length" (defArgs s_least_length) (defBody s_least_length) (defScope s_least_length) [V.int 1] [("most", V.int 4000)] f_least_length fd_least_length
  m_least_length : mg "least_length" = some (.ref f_least_length)
  f_is_within_loss : Addr
  fd_is_within_loss : FuncData
  F_is_within_loss : FunD K "is_within_loss" "is_within_loss" (defArgs s_is_within_loss) (defBody s_is_within_loss) (defScope s_is_within_loss) [] [] f_is_within_loss fd_is_within_loss
  m_is_within_loss : mg "is_within_loss" = some (.ref f_is_within_loss)
  f_need_loss : Addr
  fd_need_loss : FuncData
  F_need_loss : FunD K "need_loss" "need_loss" (defArgs s_need_loss) (defBody s_need_loss) (defScope s_need_loss) [] [] f_need_loss fd_need_loss
  m_need_loss : mg "need_loss" = some (.ref f_need_loss)
  f_rows_count : Addr
  fd_rows_count : FuncData
  F_rows_count : FunD K "rows_count" "rows_count" (defArgs s_rows_count) (defBody s_rows_count) (defScope s_rows_count) [] [] f_rows_count fd_rows_count
  m_rows_count : mg "rows_count" = some (.ref f_rows_count)
  f_page_count : Addr
  fd_page_count : FuncData
  F_page_count : FunD K "page_count" "page_count" (defArgs s_page_count) (defBody s_page_count) (defScope s_page_count) [] [] f_page_count fd_page_count
  m_page_count : mg "page_count" = some (.ref f_page_count)
  f_lengths_by_modulus : Addr
  fd_lengths_by_modulus : FuncData
  F_lengths_by_modulus : FunD K "lengths_by_modulus" "lengths_by_modulus" (defArgs s_lengths_by_modulus) (defBody s_lengths_by_modulus) (defScope s_lengths_by_modulus) [] [] f_lengths_by_modulus fd_lengths_by_modulus
  m_lengths_by_modulus : mg "lengths_by_modulus" = some (.ref f_lengths_by_modulus)
  f__law_box : Addr
  fd__law_box : FuncData
  F__law_box : FunD K "_law_box" "_law_box" (defArgs s__law_box) (defBody s__law_box) (defScope s__law_box) [] [] f__law_box fd__law_box
  m__law_box : mg "_law_box" = some (.ref f__law_box)
  f__law_take : Addr
  fd__law_take : FuncData
  F__law_take : FunD K "_law_take" "_law_take" (defArgs s__law_take) (defBody s__law_take) (defScope s__law_take) [] [] f__law_take fd__law_take
  m__law_take : mg "_law_take" = some (.ref f__law_take)
  f__law_pick : Addr
  fd__law_pick : FuncData
  F__law_pick : FunD K "_law_pick" "_law_pick" (defArgs s__law_pick) (defBody s__law_pick) (defScope s__law_pick) [] [] f__law_pick fd__law_pick
  m__law_pick : mg "_law_pick" = some (.ref f__law_pick)
  f__law_tables : Addr
  fd__law_tables : FuncData
  F__law_tables : FunD K "_law_tables" "_law_tables" (defArgs s__law_tables) (defBody s__law_tables) (defScope s__law_tables) [] [] f__law_tables fd__law_tables
  m__law_tables : mg "_law_tables" = some (.ref f__law_tables)
  f__law_led : Addr
  fd__law_led : FuncData
  F__law_led : FunD K "_law_led" "_law_led" (defArgs s__law_led) (defBody s__law_led) (defScope s__law_led) [] [] f__law_led fd__law_led
  m__law_led : mg "_law_led" = some (.ref f__law_led)
  f__law_rows : Addr
  fd__law_rows : FuncData
  F__law_rows : FunD K "_law_rows" "_law_rows" (defArgs s__law_rows) (defBody s__law_rows) (defScope s__law_rows) [] [] f__law_rows fd__law_rows
  m__law_rows : mg "_law_rows" = some (.ref f__law_rows)
  f__law_right : Addr
  fd__law_right : FuncData
  F__law_right : FunD K "_law_right" "_law_right" (defArgs s__law_right) (defBody s__law_right) (defScope s__law_right) [] [] f__law_right fd__law_right
  m__law_right : mg "_law_right" = some (.ref f__law_right)
  f__law_pages : Addr
  fd__law_pages : FuncData
  F__law_pages : FunD K "_law_pages" "_law_pages" (defArgs s__law_pages) (defBody s__law_pages) (defScope s__law_pages) [] [] f__law_pages fd__law_pages
  m__law_pages : mg "_law_pages" = some (.ref f__law_pages)
  f__law_curve_right : Addr
  fd__law_curve_right : FuncData
  F__law_curve_right : FunD K "_law_curve_right" "_law_curve_right" (defArgs s__law_curve_right) (defBody s__law_curve_right) (defScope s__law_curve_right) [] [] f__law_curve_right fd__law_curve_right
  m__law_curve_right : mg "_law_curve_right" = some (.ref f__law_curve_right)
  f_Machine___init__ : Addr
  fd_Machine___init__ : FuncData
  F_Machine___init__ : FunD K "__init__" "Machine.__init__" (defArgs s_Machine___init__) (defBody s_Machine___init__) (defScope s_Machine___init__) [] [] f_Machine___init__ fd_Machine___init__
  f_law : Addr
  fd_law : FuncData
  F_law : FunD K "law" "law" (defArgs s_law) (defBody s_law) (defScope s_law) [] [] f_law fd_law
  c_law : Addr
  p_law : Addr
  k_law : CodeAt K f_law c_law
  m_law : mg "law" = some (.ref f_law)
  f__law_heard : Addr
  fd__law_heard : FuncData
  F__law_heard : FunD K "_law_heard" "_law_heard" (defArgs s__law_heard) (defBody s__law_heard) (defScope s__law_heard) [] [] f__law_heard fd__law_heard
  m__law_heard : mg "_law_heard" = some (.ref f__law_heard)
  mc_Machine : mg "Machine" = some (.ref C_Machine)
  cls_Machine : Cls K C_Machine
  na_Machine_tables : NoAttr K C_Machine "tables"
  na_Machine_deeds : NoAttr K C_Machine "deeds"
  na_Machine_states : NoAttr K C_Machine "states"
  mk_Machine : Mk K C_Machine f_Machine___init__
  mc_Link : mg "Link" = some (.ref C_Link)
  cls_Link : Cls K C_Link
  na_Link_machine : NoAttr K C_Link "machine"
  na_Link_first : NoAttr K C_Link "first"
  na_Link_length : NoAttr K C_Link "length"
  na_Link_loss : NoAttr K C_Link "loss"
  na_Link_modulus : NoAttr K C_Link "modulus"
  mk_Link : Mk K C_Link f_Link___init__
  r_Refused : RaisK P K mg "Refused" C_Refused "ValueError" "ValueError.__new__" "ValueError.__init__" vaTail "at"
  r_TooGreat : RaisK P K mg "TooGreat" C_TooGreat "ValueError" "ValueError.__new__" "ValueError.__init__" vaTail "most"
  r_NoState : RaisK P K mg "NoState" C_NoState "KeyError" "LookupError.__new__" "KeyError.__init__" keTail "state"
  e__law_heard : TbE K (hc__law_heard C_Machine C_Link C_Refused C_TooGreat C_NoState)
section
variable {K : PySem.W.Frag} {mg : Str → Option Value} {f : Addr} {fd : FuncData}
theorem b_is_integer (F : FunD K "is_integer" "is_integer" (defArgs s_is_integer) (defBody s_is_integer) (defScope s_is_integer) [] [] f fd) : Binds K fd ["value"] [] := FunD.bindsN F fun _ _ _ _ _ _ us hl => match us, hl with | [_], _ => rfl
theorem b_is_number (F : FunD K "is_number" "is_number" (defArgs s_is_number) (defBody s_is_number) (defScope s_is_number) [] [] f fd) : Binds K fd ["value"] [] := FunD.bindsN F fun _ _ _ _ _ _ us hl => match us, hl with | [_], _ => rfl
theorem b_is_below (F : FunD K "is_below" "is_below" (defArgs s_is_below) (defBody s_is_below) (defScope s_is_below) [] [] f fd) : Binds K fd ["value", "most"] [] := FunD.bindsN F fun _ _ _ _ _ _ us hl => match us, hl with | [_, _], _ => rfl
theorem b_is_within (F : FunD K "is_within" "is_within" (defArgs s_is_within) (defBody s_is_within) (defScope s_is_within) [] [] f fd) : Binds K fd ["value", "least", "most"] [] := FunD.bindsN F fun _ _ _ _ _ _ us hl => match us, hl with | [_, _, _], _ => rfl
theorem b_is_sequence (F : FunD K "is_sequence" "is_sequence" (defArgs s_is_sequence) (defBody s_is_sequence) (defScope s_is_sequence) [] [] f fd) : Binds K fd ["value"] [] := FunD.bindsN F fun _ _ _ _ _ _ us hl => match us, hl with | [_], _ => rfl
theorem b_is_table (F : FunD K "is_table" "is_table" (defArgs s_is_table) (defBody s_is_table) (defScope s_is_table) [] [] f fd) : Binds K fd ["value", "states"] [] := FunD.bindsN F fun _ _ _ _ _ _ us hl => match us, hl with | [_, _], _ => rfl
theorem b_check_tables (F : FunD K "check_tables" "check_tables" (defArgs s_check_tables) (defBody s_check_tables) (defScope s_check_tables) [] [] f fd) : Binds K fd ["value"] [] := FunD.bindsN F fun _ _ _ _ _ _ us hl => match us, hl with | [_], _ => rfl
theorem b_need_state (F : FunD K "need_state" "need_state" (defArgs s_need_state) (defBody s_need_state) (defScope s_need_state) [] [] f fd) : Binds K fd ["machine", "state"] [] := FunD.bindsN F fun _ _ _ _ _ _ us hl => match us, hl with | [_, _], _ => rfl
theorem b_last_deeds (F : FunD K "last_deeds" "last_deeds" (defArgs s_last_deeds) (defBody s_last_deeds) (defScope s_last_deeds) [] [] f fd) : Binds K fd ["row", "length"] [] := FunD.bindsN F fun _ _ _ _ _ _ us hl => match us, hl with | [_, _], _ => rfl
theorem b_page_on (F : FunD K "page_on" "page_on" (defArgs s_page_on) (defBody s_page_on) (defScope s_page_on) [] [] f fd) : Binds K fd ["link", "page", "deed"] [] := FunD.bindsN F fun _ _ _ _ _ _ us hl => match us, hl with | [_, _, _], _ => rfl
theorem b_sight_on (F : FunD K "sight_on" "sight_on" (defArgs s_sight_on) (defBody s_sight_on) (defScope s_sight_on) [] [] f fd) : Binds K fd ["link", "sight", "deed"] [] := FunD.bindsN F fun _ _ _ _ _ _ us hl => match us, hl with | [_, _, _], _ => rfl
theorem bx_sight_rows (F : FunD K "sight_rows" "sight_rows" (defArgs s_sight_rows) (defBody s_sight_rows) (defScope s_sight_rows) [V.int 4000] [] f fd) : ∃ ds, Vals (([V.int 4000] : List V).drop 1) ds ∧ Binds K fd ["link", "most"] ds := FunD.binds1 F 2 1 (by simp) rfl fun _ _ _ _ _ _ _ us its hl h2 => match us, its, hl, h2 with | [_, _], [_], _, _ => ⟨_, rfl, rfl⟩
theorem b_sight_rows (F : FunD K "sight_rows" "sight_rows" (defArgs s_sight_rows) (defBody s_sight_rows) (defScope s_sight_rows) [V.int 4000] [] f fd) : Binds K fd ["link", "most"] [] := by
  obtain ⟨ds, hv, hb⟩ := bx_sight_rows F
  cases hv
  exact hb
theorem b_sights_within (F : FunD K "sights_within" "sights_within" (defArgs s_sights_within) (defBody s_sights_within) (defScope s_sights_within) [] [] f fd) : Binds K fd ["link", "sight"] [] := FunD.bindsN F fun _ _ _ _ _ _ us hl => match us, hl with | [_, _], _ => rfl
theorem b_open_rows (F : FunD K "open_rows" "open_rows" (defArgs s_open_rows) (defBody s_open_rows) (defScope s_open_rows) [] [] f fd) : Binds K fd ["link", "sight"] [] := FunD.bindsN F fun _ _ _ _ _ _ us hl => match us, hl with | [_, _], _ => rfl
theorem b_open_paper (F : FunD K "open_paper" "open_paper" (defArgs s_open_paper) (defBody s_open_paper) (defScope s_open_paper) [] [] f fd) : Binds K fd ["link", "most"] [] := FunD.bindsN F fun _ _ _ _ _ _ us hl => match us, hl with | [_, _], _ => rfl
theorem bx_Link___init__ (F : FunD K "__init__" "Link.__init__" (defArgs s_Link___init__) (defBody s_Link___init__) (defScope s_Link___init__) [V.int 1] [] f fd) : ∃ ds, Vals (([V.int 1] : List V).drop 1) ds ∧ Binds K fd ["self", "machine", "first", "length", "loss", "modulus"] ds := FunD.binds1 F 6 1 (by simp) rfl fun _ _ _ _ _ _ _ us its hl h2 => match us, its, hl, h2 with | [_, _, _, _, _, _], [_], _, _ => ⟨_, rfl, rfl⟩
theorem b_Link___init__ (F : FunD K "__init__" "Link.__init__" (defArgs s_Link___init__) (defBody s_Link___init__) (defScope s_Link___init__) [V.int 1] [] f fd) : Binds K fd ["self", "machine", "first", "length", "loss", "modulus"] [] := by
  obtain ⟨ds, hv, hb⟩ := bx_Link___init__ F
  cases hv
  exact hb
theorem b_is_within_loss (F : FunD K "is_within_loss" "is_within_loss" (defArgs s_is_within_loss) (defBody s_is_within_loss) (defScope s_is_within_loss) [] [] f fd) : Binds K fd ["value"] [] := FunD.bindsN F fun _ _ _ _ _ _ us hl => match us, hl with | [_], _ => rfl
theorem b_need_loss (F : FunD K "need_loss" "need_loss" (defArgs s_need_loss) (defBody s_need_loss) (defScope s_need_loss) [] [] f fd) : Binds K fd ["value"] [] := FunD.bindsN F fun _ _ _ _ _ _ us hl => match us, hl with | [_], _ => rfl
theorem b_rows_count (F : FunD K "rows_count" "rows_count" (defArgs s_rows_count) (defBody s_rows_count) (defScope s_rows_count) [] [] f fd) : Binds K fd ["machine", "length"] [] := FunD.bindsN F fun _ _ _ _ _ _ us hl => match us, hl with | [_, _], _ => rfl
theorem b_page_count (F : FunD K "page_count" "page_count" (defArgs s_page_count) (defBody s_page_count) (defScope s_page_count) [] [] f fd) : Binds K fd ["link"] [] := FunD.bindsN F fun _ _ _ _ _ _ us hl => match us, hl with | [_], _ => rfl
theorem b_lengths_by_modulus (F : FunD K "lengths_by_modulus" "lengths_by_modulus" (defArgs s_lengths_by_modulus) (defBody s_lengths_by_modulus) (defScope s_lengths_by_modulus) [] [] f fd) : Binds K fd ["machine", "first", "loss"] [] := FunD.bindsN F fun _ _ _ _ _ _ us hl => match us, hl with | [_, _, _], _ => rfl
theorem b__law_box (F : FunD K "_law_box" "_law_box" (defArgs s__law_box) (defBody s__law_box) (defScope s__law_box) [] [] f fd) : Binds K fd ["script", "k"] [] := FunD.bindsN F fun _ _ _ _ _ _ us hl => match us, hl with | [_, _], _ => rfl
theorem b__law_take (F : FunD K "_law_take" "_law_take" (defArgs s__law_take) (defBody s__law_take) (defScope s__law_take) [] [] f fd) : Binds K fd ["box", "many"] [] := FunD.bindsN F fun _ _ _ _ _ _ us hl => match us, hl with | [_, _], _ => rfl
theorem b__law_pick (F : FunD K "_law_pick" "_law_pick" (defArgs s__law_pick) (defBody s__law_pick) (defScope s__law_pick) [] [] f fd) : Binds K fd ["box", "some"] [] := FunD.bindsN F fun _ _ _ _ _ _ us hl => match us, hl with | [_, _], _ => rfl
theorem b__law_tables (F : FunD K "_law_tables" "_law_tables" (defArgs s__law_tables) (defBody s__law_tables) (defScope s__law_tables) [] [] f fd) : Binds K fd ["box", "most", "kinds"] [] := FunD.bindsN F fun _ _ _ _ _ _ us hl => match us, hl with | [_, _, _], _ => rfl
theorem b__law_led (F : FunD K "_law_led" "_law_led" (defArgs s__law_led) (defBody s__law_led) (defScope s__law_led) [] [] f fd) : Binds K fd ["tables", "state", "row"] [] := FunD.bindsN F fun _ _ _ _ _ _ us hl => match us, hl with | [_, _, _], _ => rfl
theorem b__law_rows (F : FunD K "_law_rows" "_law_rows" (defArgs s__law_rows) (defBody s__law_rows) (defScope s__law_rows) [] [] f fd) : Binds K fd ["many", "length"] [] := FunD.bindsN F fun _ _ _ _ _ _ us hl => match us, hl with | [_, _], _ => rfl
theorem b__law_right (F : FunD K "_law_right" "_law_right" (defArgs s__law_right) (defBody s__law_right) (defScope s__law_right) [] [] f fd) : Binds K fd ["tables", "first", "length", "loss", "modulus"] [] := FunD.bindsN F fun _ _ _ _ _ _ us hl => match us, hl with | [_, _, _, _, _], _ => rfl
theorem b__law_pages (F : FunD K "_law_pages" "_law_pages" (defArgs s__law_pages) (defBody s__law_pages) (defScope s__law_pages) [] [] f fd) : Binds K fd ["tables", "length", "modulus"] [] := FunD.bindsN F fun _ _ _ _ _ _ us hl => match us, hl with | [_, _, _], _ => rfl
theorem b__law_curve_right (F : FunD K "_law_curve_right" "_law_curve_right" (defArgs s__law_curve_right) (defBody s__law_curve_right) (defScope s__law_curve_right) [] [] f fd) : Binds K fd ["tables", "first", "loss", "curve"] [] := FunD.bindsN F fun _ _ _ _ _ _ us hl => match us, hl with | [_, _, _, _], _ => rfl
theorem b_Machine___init__ (F : FunD K "__init__" "Machine.__init__" (defArgs s_Machine___init__) (defBody s_Machine___init__) (defScope s_Machine___init__) [] [] f fd) : Binds K fd ["self", "tables"] [] := FunD.bindsN F fun _ _ _ _ _ _ us hl => match us, hl with | [_, _], _ => rfl
theorem b_law (F : FunD K "law" "law" (defArgs s_law) (defBody s_law) (defScope s_law) [] [] f fd) : Binds K fd ["script"] [] := FunD.bindsN F fun _ _ _ _ _ _ us hl => match us, hl with | [_], _ => rfl
theorem b__law_heard (F : FunD K "_law_heard" "_law_heard" (defArgs s__law_heard) (defBody s__law_heard) (defScope s__law_heard) [] [] f fd) : Binds K fd ["ask"] [] := FunD.bindsN F fun _ _ _ _ _ _ us hl => match us, hl with | [_], _ => rfl
theorem bdk_least_length (F : FunD K "least_length" "least_length" (defArgs s_least_length) (defBody s_least_length) (defScope s_least_length) [V.int 1] [("most", V.int 4000)] f fd) : ∃ ds, Vals (([V.int 1] : List V).drop 1 ++ ([("most", V.int 4000)] : List (Str × V)).map (·.2)) ds ∧ Binds K fd ["machine", "first", "loss", "modulus", "most"] ds := FunD.binds F 4 1 (by simp) rfl (fun _ _ _ _ _ _ _ us its ks hl h2 h3 => match us, its, ks, hl, h2, h3 with | [_, _, _, _], [_], [_], _, _, _ => ⟨_, rfl, ⟨_, _, _, _, _, _, rfl, rfl, rfl⟩⟩) (by simp)
theorem dflk_least_length {F : Hp} : Reps K F (([V.int 1] : List V).drop 1 ++ ([("most", V.int 4000)] : List (Str × V)).map (·.2)) [.int 4000] := .cons (.int 4000) (.nil)
theorem kb_lengths_by_modulus_loss_first_machine (F : FunD K "lengths_by_modulus" "lengths_by_modulus" (defArgs s_lengths_by_modulus) (defBody s_lengths_by_modulus) (defScope s_lengths_by_modulus) [] [] f fd) : KBn K fd ["machine", "first", "loss"] 0 ["loss", "first", "machine"] (fun _ ws => perm [2, 1, 0] ws) (fun _ zs => perm [2, 1, 0] zs) := kbn0 F ["loss", "first", "machine"] [2, 1, 0] fun _ _ _ _ _ _ ws hl => match ws, hl with | [_, _, _], _ => rfl
theorem kb_page_count_link (F : FunD K "page_count" "page_count" (defArgs s_page_count) (defBody s_page_count) (defScope s_page_count) [] [] f fd) : KBn K fd ["link"] 0 ["link"] (fun _ ws => perm [0] ws) (fun _ zs => perm [0] zs) := kbn0 F ["link"] [0] fun _ _ _ _ _ _ ws hl => match ws, hl with | [_], _ => rfl
end
theorem hm__law_heard {C_Machine : Addr} {C_Link : Addr} {C_Refused : Addr} {C_TooGreat : Addr} {C_NoState : Addr} : ∀ p ∈ hc__law_heard C_Machine C_Link C_Refused C_TooGreat C_NoState, ∀ a c d, MonoE (p.2.2 a c d) := (ml_cons (fun a c d => (mono_eTup (mono_aCons mono_c (mono_aCons (mono_eB (K := []) rc_repr (mono_aCons (mono_eXf mono_varF) mono_aNil)) mono_aNil)))) (ml_cons (fun a c d => (mono_eTup (mono_aCons mono_c (mono_aCons (mono_eXf mono_varF) mono_aNil)))) (ml_cons (fun a c d => (mono_eTup (mono_aCons mono_c (mono_aCons (mono_eB (K := []) rc_repr (mono_aCons (mono_eXf mono_varF) mono_aNil)) mono_aNil)))) ml_nil)))
theorem sc__law_heard : FnScope ["ask", "fault"] ["ask"] (defScope s__law_heard) := ⟨rfl, rfl, rfl, by decide +kernel, rfl, by decide +kernel, by decide +kernel⟩
section
variable {P : Program} {w : World} {K : PySem.W.Frag} {mg : Str → Option Value} {base : Heap} {C_Machine : Addr} {C_Link : Addr} {C_Refused : Addr} {C_TooGreat : Addr} {C_NoState : Addr}
theorem sc_is_integer : FnScope ["value"] ["value"] (defScope s_is_integer) := ⟨rfl, rfl, rfl, by decide +kernel, rfl, by decide +kernel, by decide +kernel⟩
theorem ok_is_integer (Γ : G P K mg C_Machine C_Link C_Refused C_TooGreat C_NoState) : FnOk P w K mg base (L2.CX P w) 1 Γ.f_is_integer Γ.fd_is_integer ["value"] (spD K 1 (dc_is_integer C_Machine C_Link C_Refused C_TooGreat C_NoState)) := by
  have sc := sc_is_integer
  refine FunD.ok Γ.F_is_integer sc (fun _ _ _ _ h => h.1) fun cdv A outer s H vs Q E hr h => ?_
  have tk : Takes (cxOf (L2.CX P w) P w K mg base ["value"] "is_integer" (defScope s_is_integer) Γ.f_is_integer cdv A outer s H E) (fun cls d _ H => E cls d H) := takes_of rfl rfl rfl rfl
  have hp : PassesOwn (model P w) (cxOf (L2.CX P w) P w K mg base ["value"] "is_integer" (defScope s_is_integer) Γ.f_is_integer cdv A outer s H E).A (cxOf (L2.CX P w) P w K mg base ["value"] "is_integer" (defScope s_is_integer) Γ.f_is_integer cdv A outer s H E).env (cxOf (L2.CX P w) P w K mg base ["value"] "is_integer" (defScope s_is_integer) Γ.f_is_integer cdv A outer s H E).xe := passes_of rfl
  have der : PDSs (cxOf (L2.CX P w) P w K mg base ["value"] "is_integer" (defScope s_is_integer) Γ.f_is_integer cdv A outer s H E) (fun cls d _ H => E cls d H) (defBody s_is_integer) (ds_is_integer C_Machine C_Link C_Refused C_TooGreat C_NoState) :=
    (pdss_one (pds_ret (pd_and (pd_isT rfl Γ.b_isinstance rfl Γ.b_int rfl (pd_varF 0)) (pd_one (pd_not (pd_isT rfl Γ.b_isinstance rfl Γ.b_bool rfl (pd_varF 0)))))))
  unfold dc_is_integer at h
  exact ⟨_, der.run, body_of2 h der.mono⟩
theorem sc_is_number : FnScope ["value"] ["value"] (defScope s_is_number) := ⟨rfl, rfl, rfl, by decide +kernel, rfl, by decide +kernel, by decide +kernel⟩
theorem ok_is_number (Γ : G P K mg C_Machine C_Link C_Refused C_TooGreat C_NoState) : FnOk P w K mg base (L2.CX P w) 2 Γ.f_is_number Γ.fd_is_number ["value"] (spD K 1 (dc_is_number C_Machine C_Link C_Refused C_TooGreat C_NoState)) := by
  have sc := sc_is_number
  refine FunD.ok Γ.F_is_number sc (fun _ _ _ _ h => h.1) fun cdv A outer s H vs Q E hr h => ?_
  have tk : Takes (cxOf (L2.CX P w) P w K mg base ["value"] "is_number" (defScope s_is_number) Γ.f_is_number cdv A outer s H E) (fun cls d _ H => E cls d H) := takes_of rfl rfl rfl rfl
  have hp : PassesOwn (model P w) (cxOf (L2.CX P w) P w K mg base ["value"] "is_number" (defScope s_is_number) Γ.f_is_number cdv A outer s H E).A (cxOf (L2.CX P w) P w K mg base ["value"] "is_number" (defScope s_is_number) Γ.f_is_number cdv A outer s H E).env (cxOf (L2.CX P w) P w K mg base ["value"] "is_number" (defScope s_is_number) Γ.f_is_number cdv A outer s H E).xe := passes_of rfl
  have der : PDSs (cxOf (L2.CX P w) P w K mg base ["value"] "is_number" (defScope s_is_number) Γ.f_is_number cdv A outer s H E) (fun cls d _ H => E cls d H) (defBody s_is_number) (ds_is_number C_Machine C_Link C_Refused C_TooGreat C_NoState) :=
    (pdss_one (pds_ret (pd_and (pd_call dm_is_integer (ok_is_integer Γ) (hr.mono (by decide)) rfl Γ.m_is_integer Γ.F_is_integer.kp (b_is_integer Γ.F_is_integer) tk (pda_cons (pd_varF 0) pda_nil)) (pd_one (pd_cmp op_ge ro_boo0 (pd_varF 0) pd_int (nomark _))))))
  unfold dc_is_number at h
  exact ⟨_, der.run, body_of2 h der.mono⟩
theorem sc_is_below : FnScope ["value", "most"] ["value", "most"] (defScope s_is_below) := ⟨rfl, rfl, rfl, by decide +kernel, rfl, by decide +kernel, by decide +kernel⟩
theorem ok_is_below (Γ : G P K mg C_Machine C_Link C_Refused C_TooGreat C_NoState) : FnOk P w K mg base (L2.CX P w) 3 Γ.f_is_below Γ.fd_is_below ["value", "most"] (spD K 2 (dc_is_below C_Machine C_Link C_Refused C_TooGreat C_NoState)) := by
  have sc := sc_is_below
  refine FunD.ok Γ.F_is_below sc (fun _ _ _ _ h => h.1) fun cdv A outer s H vs Q E hr h => ?_
  have tk : Takes (cxOf (L2.CX P w) P w K mg base ["value", "most"] "is_below" (defScope s_is_below) Γ.f_is_below cdv A outer s H E) (fun cls d _ H => E cls d H) := takes_of rfl rfl rfl rfl
  have hp : PassesOwn (model P w) (cxOf (L2.CX P w) P w K mg base ["value", "most"] "is_below" (defScope s_is_below) Γ.f_is_below cdv A outer s H E).A (cxOf (L2.CX P w) P w K mg base ["value", "most"] "is_below" (defScope s_is_below) Γ.f_is_below cdv A outer s H E).env (cxOf (L2.CX P w) P w K mg base ["value", "most"] "is_below" (defScope s_is_below) Γ.f_is_below cdv A outer s H E).xe := passes_of rfl
  have der : PDSs (cxOf (L2.CX P w) P w K mg base ["value", "most"] "is_below" (defScope s_is_below) Γ.f_is_below cdv A outer s H E) (fun cls d _ H => E cls d H) (defBody s_is_below) (ds_is_below C_Machine C_Link C_Refused C_TooGreat C_NoState) :=
    (pdss_one (pds_ret (pd_and (pd_call dm_is_number (ok_is_number Γ) (hr.mono (by decide)) rfl Γ.m_is_number Γ.F_is_number.kp (b_is_number Γ.F_is_number) tk (pda_cons (pd_varF 0) pda_nil)) (pd_one (pd_cmp op_lt ro_boo0 (pd_varF 0) (pd_varF 1) (nomark _))))))
  unfold dc_is_below at h
  exact ⟨_, der.run, body_of2 h der.mono⟩
theorem sc_is_within : FnScope ["value", "least", "most"] ["value", "least", "most"] (defScope s_is_within) := ⟨rfl, rfl, rfl, by decide +kernel, rfl, by decide +kernel, by decide +kernel⟩
theorem ok_is_within (Γ : G P K mg C_Machine C_Link C_Refused C_TooGreat C_NoState) : FnOk P w K mg base (L2.CX P w) 2 Γ.f_is_within Γ.fd_is_within ["value", "least", "most"] (spD K 3 (dc_is_within C_Machine C_Link C_Refused C_TooGreat C_NoState)) := by
  have sc := sc_is_within
  refine FunD.ok Γ.F_is_within sc (fun _ _ _ _ h => h.1) fun cdv A outer s H vs Q E hr h => ?_
  have tk : Takes (cxOf (L2.CX P w) P w K mg base ["value", "least", "most"] "is_within" (defScope s_is_within) Γ.f_is_within cdv A outer s H E) (fun cls d _ H => E cls d H) := takes_of rfl rfl rfl rfl
  have hp : PassesOwn (model P w) (cxOf (L2.CX P w) P w K mg base ["value", "least", "most"] "is_within" (defScope s_is_within) Γ.f_is_within cdv A outer s H E).A (cxOf (L2.CX P w) P w K mg base ["value", "least", "most"] "is_within" (defScope s_is_within) Γ.f_is_within cdv A outer s H E).env (cxOf (L2.CX P w) P w K mg base ["value", "least", "most"] "is_within" (defScope s_is_within) Γ.f_is_within cdv A outer s H E).xe := passes_of rfl
  have der : PDSs (cxOf (L2.CX P w) P w K mg base ["value", "least", "most"] "is_within" (defScope s_is_within) Γ.f_is_within cdv A outer s H E) (fun cls d _ H => E cls d H) (defBody s_is_within) (ds_is_within C_Machine C_Link C_Refused C_TooGreat C_NoState) :=
    (pdss_one (pds_ret (pd_and (pd_call dm_is_integer (ok_is_integer Γ) (hr.mono (by decide)) rfl Γ.m_is_integer Γ.F_is_integer.kp (b_is_integer Γ.F_is_integer) tk (pda_cons (pd_varF 0) pda_nil)) (pd_one (pd_chain op_le ro_boo0 op_le ro_boo0 (pd_varF 1) (pd_varF 0) (pd_varF 2))))))
  unfold dc_is_within at h
  exact ⟨_, der.run, body_of2 h der.mono⟩
theorem sc_is_sequence : FnScope ["value"] ["value"] (defScope s_is_sequence) := ⟨rfl, rfl, rfl, by decide +kernel, rfl, by decide +kernel, by decide +kernel⟩
theorem ok_is_sequence (Γ : G P K mg C_Machine C_Link C_Refused C_TooGreat C_NoState) : FnOk P w K mg base (L2.CX P w) 1 Γ.f_is_sequence Γ.fd_is_sequence ["value"] (spD K 1 (dc_is_sequence C_Machine C_Link C_Refused C_TooGreat C_NoState)) := by
  have sc := sc_is_sequence
  refine FunD.ok Γ.F_is_sequence sc (fun _ _ _ _ h => h.1) fun cdv A outer s H vs Q E hr h => ?_
  have tk : Takes (cxOf (L2.CX P w) P w K mg base ["value"] "is_sequence" (defScope s_is_sequence) Γ.f_is_sequence cdv A outer s H E) (fun cls d _ H => E cls d H) := takes_of rfl rfl rfl rfl
  have hp : PassesOwn (model P w) (cxOf (L2.CX P w) P w K mg base ["value"] "is_sequence" (defScope s_is_sequence) Γ.f_is_sequence cdv A outer s H E).A (cxOf (L2.CX P w) P w K mg base ["value"] "is_sequence" (defScope s_is_sequence) Γ.f_is_sequence cdv A outer s H E).env (cxOf (L2.CX P w) P w K mg base ["value"] "is_sequence" (defScope s_is_sequence) Γ.f_is_sequence cdv A outer s H E).xe := passes_of rfl
  have der : PDSs (cxOf (L2.CX P w) P w K mg base ["value"] "is_sequence" (defScope s_is_sequence) Γ.f_is_sequence cdv A outer s H E) (fun cls d _ H => E cls d H) (defBody s_is_sequence) (ds_is_sequence C_Machine C_Link C_Refused C_TooGreat C_NoState) :=
    (pdss_one (pds_ret (pd_isT2 rfl Γ.b_isinstance rfl Γ.b_list rfl rfl Γ.b_tuple rfl (pd_varF 0))))
  unfold dc_is_sequence at h
  exact ⟨_, der.run, body_of2 h der.mono⟩
theorem sc_is_table : FnScope ["value", "states", "state"] ["value", "states"] (defScope s_is_table) := ⟨rfl, rfl, rfl, by decide +kernel, rfl, by decide +kernel, by decide +kernel⟩
theorem ok_is_table (Γ : G P K mg C_Machine C_Link C_Refused C_TooGreat C_NoState) : FnOk P w K mg base (L2.CX P w) 4 Γ.f_is_table Γ.fd_is_table ["value", "states"] (spD K 2 (dc_is_table C_Machine C_Link C_Refused C_TooGreat C_NoState)) := by
  have sc := sc_is_table
  refine FunD.ok Γ.F_is_table sc (fun _ _ _ _ h => h.1) fun cdv A outer s H vs Q E hr h => ?_
  have tk : Takes (cxOf (L2.CX P w) P w K mg base ["value", "states", "state"] "is_table" (defScope s_is_table) Γ.f_is_table cdv A outer s H E) (fun cls d _ H => E cls d H) := takes_of rfl rfl rfl rfl
  have hp : PassesOwn (model P w) (cxOf (L2.CX P w) P w K mg base ["value", "states", "state"] "is_table" (defScope s_is_table) Γ.f_is_table cdv A outer s H E).A (cxOf (L2.CX P w) P w K mg base ["value", "states", "state"] "is_table" (defScope s_is_table) Γ.f_is_table cdv A outer s H E).env (cxOf (L2.CX P w) P w K mg base ["value", "states", "state"] "is_table" (defScope s_is_table) Γ.f_is_table cdv A outer s H E).xe := passes_of rfl
  have der : PDSs (cxOf (L2.CX P w) P w K mg base ["value", "states", "state"] "is_table" (defScope s_is_table) Γ.f_is_table cdv A outer s H E) (fun cls d _ H => E cls d H) (defBody s_is_table) (ds_is_table C_Machine C_Link C_Refused C_TooGreat C_NoState) :=
    (pdss_one (pds_ret (pd_and (pd_call dm_is_sequence (ok_is_sequence Γ) (hr.mono (by decide)) rfl Γ.m_is_sequence Γ.F_is_sequence.kp (b_is_sequence Γ.F_is_sequence) tk (pda_cons (pd_varF 0) pda_nil)) (pd_and (pd_cmp (op_eqD hr.units) ro_eq (pd_callB call_len rc_len rfl Γ.b_len rfl (pda_cons (pd_varF 0) pda_nil)) (pd_varF 1) (nomark _)) (pd_one (pd_callB (cr_all rfl) rc_all rfl Γ.b_all rfl (pda_cons (pd_fz (pn_lc (own := [("state", 2)]) (g := (gName 2)) rfl sc.nd (pdi_seq (pd_varF 0)) (blkOk_by (by kernel_rfl)) rfl (fun _ _ _ _ _ => (pdg_name 2 sc.nd rfl (by first | exact Or.inl rfl | exact Or.inr rfl))) (by decide) (fun _ _ _ _ _ => pdts_nil) (fun _ _ _ _ _ => (pd_call dm_is_below (ok_is_below Γ) (hr.mono (by decide)) rfl Γ.m_is_below Γ.F_is_below.kp (b_is_below Γ.F_is_below) takes0 (pda_cons (pd_varF 2) (pda_cons (pd_varF 1) pda_nil)))))) pda_nil)))))))
  unfold dc_is_table at h
  exact ⟨_, der.run, body_of2 h der.mono⟩
theorem sc_check_tables : FnScope ["value", "states", "at", "table"] ["value"] (defScope s_check_tables) := ⟨rfl, rfl, rfl, by decide +kernel, rfl, by decide +kernel, by decide +kernel⟩
theorem ok_check_tables (Γ : G P K mg C_Machine C_Link C_Refused C_TooGreat C_NoState) : FnOk P w K mg base (L2.CX P w) 5 Γ.f_check_tables Γ.fd_check_tables ["value"] (spD K 1 (dc_check_tables C_Machine C_Link C_Refused C_TooGreat C_NoState)) := by
  have sc := sc_check_tables
  refine FunD.ok Γ.F_check_tables sc (fun _ _ _ _ h => h.1) fun cdv A outer s H vs Q E hr h => ?_
  have tk : Takes (cxOf (L2.CX P w) P w K mg base ["value", "states", "at", "table"] "check_tables" (defScope s_check_tables) Γ.f_check_tables cdv A outer s H E) (fun cls d _ H => E cls d H) := takes_of rfl rfl rfl rfl
  have hp : PassesOwn (model P w) (cxOf (L2.CX P w) P w K mg base ["value", "states", "at", "table"] "check_tables" (defScope s_check_tables) Γ.f_check_tables cdv A outer s H E).A (cxOf (L2.CX P w) P w K mg base ["value", "states", "at", "table"] "check_tables" (defScope s_check_tables) Γ.f_check_tables cdv A outer s H E).env (cxOf (L2.CX P w) P w K mg base ["value", "states", "at", "table"] "check_tables" (defScope s_check_tables) Γ.f_check_tables cdv A outer s H E).xe := passes_of rfl
  have der : PDSs (cxOf (L2.CX P w) P w K mg base ["value", "states", "at", "table"] "check_tables" (defScope s_check_tables) Γ.f_check_tables cdv A outer s H E) (fun cls d _ H => E cls d H) (defBody s_check_tables) (ds_check_tables C_Machine C_Link C_Refused C_TooGreat C_NoState) :=
    (pdss_cons (pds_if (pdt_w (pdw_or (pdt_not (pdt_val (pd_call dm_is_sequence (ok_is_sequence Γ) (hr.mono (by decide)) rfl Γ.m_is_sequence Γ.F_is_sequence.kp (b_is_sequence Γ.F_is_sequence) tk (pda_cons (pd_varF 0) pda_nil)))) (pdw_or1 (pdt_not (pdt_chain op_le ro_boo0 op_le ro_boo0 pd_int (pd_callB call_len rc_len rfl Γ.b_len rfl (pda_cons (pd_varF 0) pda_nil)) (pd_gint rfl Γ.g_MOST_DEEDS.1 Γ.g_MOST_DEEDS.2)))))) (pdss_one pds_never) pdss_nil) (pdss_cons (pds_set (i := 1) sc.nd rfl (by first | exact Or.inl rfl | exact Or.inr rfl) (pd_ifExp (pdt_val (pd_call dm_is_sequence (ok_is_sequence Γ) (hr.mono (by decide)) rfl Γ.m_is_sequence Γ.F_is_sequence.kp (b_is_sequence Γ.F_is_sequence) tk (pda_cons (pd_ix (pd_varF 0) pd_int (fun _ _ => rfl)) pda_nil))) (pd_callB call_len rc_len rfl Γ.b_len rfl (pda_cons (pd_ix (pd_varF 0) pd_int (fun _ _ => rfl)) pda_nil)) pd_int)) (pdss_cons (pds_for hp rfl (pdi_enum rfl Γ.b_enumerate (pda_cons (pd_varF 0) pda_nil)) (pdg_tup rfl (pdgs_cons (pdg_name 2 sc.nd rfl (by first | exact Or.inl rfl | exact Or.inr rfl)) (pdgs_cons (pdg_name 3 sc.nd rfl (by first | exact Or.inl rfl | exact Or.inr rfl)) pdgs_nil))) (pdss_one (pds_if (pdt_w (pdw_or (pdt_not (pdt_chain op_le ro_boo0 op_le ro_boo0 pd_int (pd_varF 1) (pd_gint rfl Γ.g_MOST_STATES.1 Γ.g_MOST_STATES.2))) (pdw_or1 (pdt_not (pdt_val (pd_call dm_is_table (ok_is_table Γ) (hr.mono (by decide)) rfl Γ.m_is_table Γ.F_is_table.kp (b_is_table Γ.F_is_table) tk (pda_cons (pd_varF 3) (pda_cons (pd_varF 1) pda_nil)))))))) (pdss_one pds_never) pdss_nil))) (pdss_one (pds_ret (pd_callTy call_tuple_of rc_tuple rfl Γ.b_tuple rfl (pda_cons (pd_fz (pn_lc (own := [("table", 3)]) (g := (gName 3)) rfl sc.nd (pdi_seq (pd_varF 0)) (blkOk_by (by kernel_rfl)) rfl (fun _ _ _ _ _ => (pdg_name 3 sc.nd rfl (by first | exact Or.inl rfl | exact Or.inr rfl))) (by decide) (fun _ _ _ _ _ => pdts_nil) (fun _ _ _ _ _ => (pd_callTy call_tuple_of rc_tuple rfl Γ.b_tuple rfl (pda_cons (pd_varF 3) pda_nil))))) pda_nil)))))))
  unfold dc_check_tables at h
  exact ⟨_, der.run, body_of2 h der.mono⟩
theorem sc_need_state : FnScope ["machine", "state"] ["machine", "state"] (defScope s_need_state) := ⟨rfl, rfl, rfl, by decide +kernel, rfl, by decide +kernel, by decide +kernel⟩
theorem ok_need_state (Γ : G P K mg C_Machine C_Link C_Refused C_TooGreat C_NoState) : FnOk P w K mg base (L2.CX P w) 4 Γ.f_need_state Γ.fd_need_state ["machine", "state"] (spD K 2 (dc_need_state C_Machine C_Link C_Refused C_TooGreat C_NoState)) := by
  have sc := sc_need_state
  refine FunD.ok Γ.F_need_state sc (fun _ _ _ _ h => h.1) fun cdv A outer s H vs Q E hr h => ?_
  have tk : Takes (cxOf (L2.CX P w) P w K mg base ["machine", "state"] "need_state" (defScope s_need_state) Γ.f_need_state cdv A outer s H E) (fun cls d _ H => E cls d H) := takes_of rfl rfl rfl rfl
  have hp : PassesOwn (model P w) (cxOf (L2.CX P w) P w K mg base ["machine", "state"] "need_state" (defScope s_need_state) Γ.f_need_state cdv A outer s H E).A (cxOf (L2.CX P w) P w K mg base ["machine", "state"] "need_state" (defScope s_need_state) Γ.f_need_state cdv A outer s H E).env (cxOf (L2.CX P w) P w K mg base ["machine", "state"] "need_state" (defScope s_need_state) Γ.f_need_state cdv A outer s H E).xe := passes_of rfl
  have der : PDSs (cxOf (L2.CX P w) P w K mg base ["machine", "state"] "need_state" (defScope s_need_state) Γ.f_need_state cdv A outer s H E) (fun cls d _ H => E cls d H) (defBody s_need_state) (ds_need_state C_Machine C_Link C_Refused C_TooGreat C_NoState) :=
    (pdss_cons (pds_if (pdt_not (pdt_val (pd_call dm_is_below (ok_is_below Γ) (hr.mono (by decide)) rfl Γ.m_is_below Γ.F_is_below.kp (b_is_below Γ.F_is_below) tk (pda_cons (pd_varF 1) (pda_cons (pd_attr Γ.cls_Machine Γ.na_Machine_states rfl (by decide +kernel) (pd_varF 0)) pda_nil))))) (pdss_one (pds_raiseK Γ.r_NoState hr (by decide) rfl rfl tk (pd_varF 1))) pdss_nil) (pdss_one (pds_ret (pd_varF 1))))
  unfold dc_need_state at h
  exact ⟨_, der.run, body_of2 h der.mono⟩
theorem sc_last_deeds : FnScope ["row", "length"] ["row", "length"] (defScope s_last_deeds) := ⟨rfl, rfl, rfl, by decide +kernel, rfl, by decide +kernel, by decide +kernel⟩
theorem ok_last_deeds (Γ : G P K mg C_Machine C_Link C_Refused C_TooGreat C_NoState) : FnOk P w K mg base (L2.CX P w) 1 Γ.f_last_deeds Γ.fd_last_deeds ["row", "length"] (spD K 2 (dc_last_deeds C_Machine C_Link C_Refused C_TooGreat C_NoState)) := by
  have sc := sc_last_deeds
  refine FunD.ok Γ.F_last_deeds sc (fun _ _ _ _ h => h.1) fun cdv A outer s H vs Q E hr h => ?_
  have tk : Takes (cxOf (L2.CX P w) P w K mg base ["row", "length"] "last_deeds" (defScope s_last_deeds) Γ.f_last_deeds cdv A outer s H E) (fun cls d _ H => E cls d H) := takes_of rfl rfl rfl rfl
  have hp : PassesOwn (model P w) (cxOf (L2.CX P w) P w K mg base ["row", "length"] "last_deeds" (defScope s_last_deeds) Γ.f_last_deeds cdv A outer s H E).A (cxOf (L2.CX P w) P w K mg base ["row", "length"] "last_deeds" (defScope s_last_deeds) Γ.f_last_deeds cdv A outer s H E).env (cxOf (L2.CX P w) P w K mg base ["row", "length"] "last_deeds" (defScope s_last_deeds) Γ.f_last_deeds cdv A outer s H E).xe := passes_of rfl
  have der : PDSs (cxOf (L2.CX P w) P w K mg base ["row", "length"] "last_deeds" (defScope s_last_deeds) Γ.f_last_deeds cdv A outer s H E) (fun cls d _ H => E cls d H) (defBody s_last_deeds) (ds_last_deeds C_Machine C_Link C_Refused C_TooGreat C_NoState) :=
    (pdss_one (pds_ret (pd_ifExp (pdt_cmp op_gt ro_boo0 (pd_callB call_len rc_len rfl Γ.b_len rfl (pda_cons (pd_varF 0) pda_nil)) (pd_varF 1) (nomark _)) (pd_slice (pd_varF 0) (pdo_some (pd_op op_sub ro_int0 (pd_callB call_len rc_len rfl Γ.b_len rfl (pda_cons (pd_varF 0) pda_nil)) (pd_varF 1))) pdo_none) (pd_varF 0))))
  unfold dc_last_deeds at h
  exact ⟨_, der.run, body_of2 h der.mono⟩
theorem sc_page_on : FnScope ["link", "page", "deed"] ["link", "page", "deed"] (defScope s_page_on) := ⟨rfl, rfl, rfl, by decide +kernel, rfl, by decide +kernel, by decide +kernel⟩
theorem ok_page_on (Γ : G P K mg C_Machine C_Link C_Refused C_TooGreat C_NoState) : FnOk P w K mg base (L2.CX P w) 2 Γ.f_page_on Γ.fd_page_on ["link", "page", "deed"] (spD K 3 (dc_page_on C_Machine C_Link C_Refused C_TooGreat C_NoState)) := by
  have sc := sc_page_on
  refine FunD.ok Γ.F_page_on sc (fun _ _ _ _ h => h.1) fun cdv A outer s H vs Q E hr h => ?_
  have tk : Takes (cxOf (L2.CX P w) P w K mg base ["link", "page", "deed"] "page_on" (defScope s_page_on) Γ.f_page_on cdv A outer s H E) (fun cls d _ H => E cls d H) := takes_of rfl rfl rfl rfl
  have hp : PassesOwn (model P w) (cxOf (L2.CX P w) P w K mg base ["link", "page", "deed"] "page_on" (defScope s_page_on) Γ.f_page_on cdv A outer s H E).A (cxOf (L2.CX P w) P w K mg base ["link", "page", "deed"] "page_on" (defScope s_page_on) Γ.f_page_on cdv A outer s H E).env (cxOf (L2.CX P w) P w K mg base ["link", "page", "deed"] "page_on" (defScope s_page_on) Γ.f_page_on cdv A outer s H E).xe := passes_of rfl
  have der : PDSs (cxOf (L2.CX P w) P w K mg base ["link", "page", "deed"] "page_on" (defScope s_page_on) Γ.f_page_on cdv A outer s H E) (fun cls d _ H => E cls d H) (defBody s_page_on) (ds_page_on C_Machine C_Link C_Refused C_TooGreat C_NoState) :=
    (pdss_one (pds_ret (pd_tup (pda_cons (pd_call dm_last_deeds (ok_last_deeds Γ) (hr.mono (by decide)) rfl Γ.m_last_deeds Γ.F_last_deeds.kp (b_last_deeds Γ.F_last_deeds) tk (pda_cons (pd_op op_addAll ro_add (pd_ix (pd_varF 1) pd_int (fun _ _ => rfl)) (pd_tup (pda_cons (pd_varF 2) pda_nil))) (pda_cons (pd_fldS 0 Γ.cls_Link Γ.na_Link_length) pda_nil))) (pda_cons (pd_op op_mod ro_int (pd_op op_addAll ro_add (pd_ix (pd_varF 1) pd_int (fun _ _ => rfl)) pd_int) (pd_fldS 0 Γ.cls_Link Γ.na_Link_modulus)) pda_nil)))))
  unfold dc_page_on at h
  exact ⟨_, der.run, body_of2 h der.mono⟩
theorem sc_sight_on : FnScope ["link", "sight", "deed"] ["link", "sight", "deed"] (defScope s_sight_on) := ⟨rfl, rfl, rfl, by decide +kernel, rfl, by decide +kernel, by decide +kernel⟩
theorem ok_sight_on (Γ : G P K mg C_Machine C_Link C_Refused C_TooGreat C_NoState) : FnOk P w K mg base (L2.CX P w) 3 Γ.f_sight_on Γ.fd_sight_on ["link", "sight", "deed"] (spD K 3 (dc_sight_on C_Machine C_Link C_Refused C_TooGreat C_NoState)) := by
  have sc := sc_sight_on
  refine FunD.ok Γ.F_sight_on sc (fun _ _ _ _ h => h.1) fun cdv A outer s H vs Q E hr h => ?_
  have tk : Takes (cxOf (L2.CX P w) P w K mg base ["link", "sight", "deed"] "sight_on" (defScope s_sight_on) Γ.f_sight_on cdv A outer s H E) (fun cls d _ H => E cls d H) := takes_of rfl rfl rfl rfl
  have hp : PassesOwn (model P w) (cxOf (L2.CX P w) P w K mg base ["link", "sight", "deed"] "sight_on" (defScope s_sight_on) Γ.f_sight_on cdv A outer s H E).A (cxOf (L2.CX P w) P w K mg base ["link", "sight", "deed"] "sight_on" (defScope s_sight_on) Γ.f_sight_on cdv A outer s H E).env (cxOf (L2.CX P w) P w K mg base ["link", "sight", "deed"] "sight_on" (defScope s_sight_on) Γ.f_sight_on cdv A outer s H E).xe := passes_of rfl
  have der : PDSs (cxOf (L2.CX P w) P w K mg base ["link", "sight", "deed"] "sight_on" (defScope s_sight_on) Γ.f_sight_on cdv A outer s H E) (fun cls d _ H => E cls d H) (defBody s_sight_on) (ds_sight_on C_Machine C_Link C_Refused C_TooGreat C_NoState) :=
    (pdss_one (pds_ret (pd_tup (pda_cons (pd_ix (pd_ix (pd_attr Γ.cls_Machine Γ.na_Machine_tables rfl (by decide +kernel) (pd_fldS 0 Γ.cls_Link Γ.na_Link_machine)) (pd_varF 2) (fun _ _ => rfl)) (pd_ix (pd_varF 1) pd_int (fun _ _ => rfl)) (fun _ _ => rfl)) (pda_cons (pd_call dm_page_on (ok_page_on Γ) (hr.mono (by decide)) rfl Γ.m_page_on Γ.F_page_on.kp (b_page_on Γ.F_page_on) tk (pda_bor 0 (pda_cons (pd_ix (pd_varF 1) pd_int (fun _ _ => rfl)) (pda_cons (pd_varF 2) pda_nil)))) pda_nil)))))
  unfold dc_sight_on at h
  exact ⟨_, der.run, body_of2 h der.mono⟩
theorem sc_sight_rows : FnScope ["link", "most", "begin", "found", "waiting", "at", "sight", "deed", "after"] ["link", "most"] (defScope s_sight_rows) := ⟨rfl, rfl, rfl, by decide +kernel, rfl, by decide +kernel, by decide +kernel⟩
theorem ok_sight_rows (Γ : G P K mg C_Machine C_Link C_Refused C_TooGreat C_NoState) : FnOk P w K mg base (L2.CX P w) 4 Γ.f_sight_rows Γ.fd_sight_rows ["link", "most"] (spD K 2 (dc_sight_rows C_Machine C_Link C_Refused C_TooGreat C_NoState)) := by
  have sc := sc_sight_rows
  refine FunD.ok Γ.F_sight_rows sc (fun _ _ _ _ h => h.1) fun cdv A outer s H vs Q E hr h => ?_
  have tk : Takes (cxOf (L2.CX P w) P w K mg base ["link", "most", "begin", "found", "waiting", "at", "sight", "deed", "after"] "sight_rows" (defScope s_sight_rows) Γ.f_sight_rows cdv A outer s H E) (fun cls d _ H => E cls d H) := takes_of rfl rfl rfl rfl
  have hp : PassesOwn (model P w) (cxOf (L2.CX P w) P w K mg base ["link", "most", "begin", "found", "waiting", "at", "sight", "deed", "after"] "sight_rows" (defScope s_sight_rows) Γ.f_sight_rows cdv A outer s H E).A (cxOf (L2.CX P w) P w K mg base ["link", "most", "begin", "found", "waiting", "at", "sight", "deed", "after"] "sight_rows" (defScope s_sight_rows) Γ.f_sight_rows cdv A outer s H E).env (cxOf (L2.CX P w) P w K mg base ["link", "most", "begin", "found", "waiting", "at", "sight", "deed", "after"] "sight_rows" (defScope s_sight_rows) Γ.f_sight_rows cdv A outer s H E).xe := passes_of rfl
  have der : PDSs (cxOf (L2.CX P w) P w K mg base ["link", "most", "begin", "found", "waiting", "at", "sight", "deed", "after"] "sight_rows" (defScope s_sight_rows) Γ.f_sight_rows cdv A outer s H E) (fun cls d _ H => E cls d H) (defBody s_sight_rows) (ds_sight_rows C_Machine C_Link C_Refused C_TooGreat C_NoState) :=
    (pdss_cons (pds_set (i := 2) sc.nd rfl (by first | exact Or.inl rfl | exact Or.inr rfl) (pd_tup (pda_cons (pd_fldS 0 Γ.cls_Link Γ.na_Link_first) (pda_cons (pd_tup (pda_cons (pd_tup pda_nil) (pda_cons pd_int pda_nil))) pda_nil)))) (pdss_cons (pds_own (i := 3) sc.nd rfl (by first | exact Or.inl rfl | exact Or.inr rfl) (pn_disp1N hr (pd_varF 2) (pd_tup pda_nil))) (pdss_cons (pds_own (i := 4) sc.nd rfl (by first | exact Or.inl rfl | exact Or.inr rfl) (pn_lst (pda_cons (pd_varF 2) pda_nil))) (pdss_cons (pds_set (i := 5) sc.nd rfl (by first | exact Or.inl rfl | exact Or.inr rfl) pd_int) (pdss_cons (pds_while hp (pdt_cmp op_lt ro_boo0 (pd_varF 5) (pd_lenS 4 rfl Γ.b_len) (nomark _)) (pdss_cons (pds_set (i := 6) sc.nd rfl (by first | exact Or.inl rfl | exact Or.inr rfl) (pd_ixS 4 (pd_varF 5) (fun _ _ => rfl))) (pdss_cons (pds_aug (i := 5) sc.nd rfl (by first | exact Or.inl rfl | exact Or.inr rfl) iop_add ro_int0 pd_int) (pdss_one (pds_for hp rfl (pdi_r1 rfl Γ.b_range (pda_cons (pd_attr Γ.cls_Machine Γ.na_Machine_deeds rfl (by decide +kernel) (pd_fldS 0 Γ.cls_Link Γ.na_Link_machine)) pda_nil)) (pdg_name 7 sc.nd rfl (by first | exact Or.inl rfl | exact Or.inr rfl)) (pdss_cons (pds_set (i := 8) sc.nd rfl (by first | exact Or.inl rfl | exact Or.inr rfl) (pd_call dm_sight_on (ok_sight_on Γ) (hr.mono (by decide)) rfl Γ.m_sight_on Γ.F_sight_on.kp (b_sight_on Γ.F_sight_on) tk (pda_bor 0 (pda_cons (pd_varF 6) (pda_cons (pd_varF 7) pda_nil))))) (pdss_one (pds_if (pdt_notinSN 3 hr (pd_varF 8)) (pdss_cons (pds_if (pdt_cmp (op_eqD hr.units) ro_eq (pd_lenSN 3 rfl Γ.b_len) (pd_varF 1) (nomark _)) (pdss_one (pds_raiseK Γ.r_TooGreat hr (by decide) rfl rfl tk (pd_varF 1))) pdss_nil) (pdss_cons (pds_asg (pd_op op_addAll ro_add (pd_getSN 3 hr (pd_varF 6) (fun _ _ => rfl)) (pd_tup (pda_cons (pd_varF 7) pda_nil))) (pdg_subN 3 hr (pd_varF 8))) (pdss_one (pds_app 4 (pd_varF 8))))) pdss_nil)))))))) (pdss_one (pds_retS 3)))))))
  unfold dc_sight_rows at h
  exact ⟨_, der.run, body_of2 h der.mono⟩
theorem sc_sights_within : FnScope ["link", "sight", "found", "layer", "turn", "later", "one", "deed", "after"] ["link", "sight"] (defScope s_sights_within) := ⟨rfl, rfl, rfl, by decide +kernel, rfl, by decide +kernel, by decide +kernel⟩
theorem ok_sights_within (Γ : G P K mg C_Machine C_Link C_Refused C_TooGreat C_NoState) : FnOk P w K mg base (L2.CX P w) 4 Γ.f_sights_within Γ.fd_sights_within ["link", "sight"] (spD K 2 (dc_sights_within C_Machine C_Link C_Refused C_TooGreat C_NoState)) := by
  have sc := sc_sights_within
  refine FunD.ok Γ.F_sights_within sc (fun _ _ _ _ h => h.1) fun cdv A outer s H vs Q E hr h => ?_
  have tk : Takes (cxOf (L2.CX P w) P w K mg base ["link", "sight", "found", "layer", "turn", "later", "one", "deed", "after"] "sights_within" (defScope s_sights_within) Γ.f_sights_within cdv A outer s H E) (fun cls d _ H => E cls d H) := takes_of rfl rfl rfl rfl
  have hp : PassesOwn (model P w) (cxOf (L2.CX P w) P w K mg base ["link", "sight", "found", "layer", "turn", "later", "one", "deed", "after"] "sights_within" (defScope s_sights_within) Γ.f_sights_within cdv A outer s H E).A (cxOf (L2.CX P w) P w K mg base ["link", "sight", "found", "layer", "turn", "later", "one", "deed", "after"] "sights_within" (defScope s_sights_within) Γ.f_sights_within cdv A outer s H E).env (cxOf (L2.CX P w) P w K mg base ["link", "sight", "found", "layer", "turn", "later", "one", "deed", "after"] "sights_within" (defScope s_sights_within) Γ.f_sights_within cdv A outer s H E).xe := passes_of rfl
  have der : PDSs (cxOf (L2.CX P w) P w K mg base ["link", "sight", "found", "layer", "turn", "later", "one", "deed", "after"] "sights_within" (defScope s_sights_within) Γ.f_sights_within cdv A outer s H E) (fun cls d _ H => E cls d H) (defBody s_sights_within) (ds_sights_within C_Machine C_Link C_Refused C_TooGreat C_NoState) :=
    (pdss_cons (pds_own (i := 2) sc.nd rfl (by first | exact Or.inl rfl | exact Or.inr rfl) (pn_disp1N hr (pd_varF 1) (pd_tup pda_nil))) (pdss_cons (pds_own (i := 3) sc.nd rfl (by first | exact Or.inl rfl | exact Or.inr rfl) (pn_lst (pda_cons (pd_varF 1) pda_nil))) (pdss_cons (pds_for hp rfl (pdi_r1 rfl Γ.b_range (pda_cons (pd_fldS 0 Γ.cls_Link Γ.na_Link_loss) pda_nil)) (pdg_name 4 sc.nd rfl (by first | exact Or.inl rfl | exact Or.inr rfl)) (pdss_cons (pds_own (i := 5) sc.nd rfl (by first | exact Or.inl rfl | exact Or.inr rfl) (pn_lst pda_nil)) (pdss_cons (pds_for hp rfl (pdi_seq (pd_varF 3)) (pdg_name 6 sc.nd rfl (by first | exact Or.inl rfl | exact Or.inr rfl)) (pdss_one (pds_for hp rfl (pdi_r1 rfl Γ.b_range (pda_cons (pd_attr Γ.cls_Machine Γ.na_Machine_deeds rfl (by decide +kernel) (pd_fldS 0 Γ.cls_Link Γ.na_Link_machine)) pda_nil)) (pdg_name 7 sc.nd rfl (by first | exact Or.inl rfl | exact Or.inr rfl)) (pdss_cons (pds_set (i := 8) sc.nd rfl (by first | exact Or.inl rfl | exact Or.inr rfl) (pd_call dm_sight_on (ok_sight_on Γ) (hr.mono (by decide)) rfl Γ.m_sight_on Γ.F_sight_on.kp (b_sight_on Γ.F_sight_on) tk (pda_bor 0 (pda_cons (pd_varF 6) (pda_cons (pd_varF 7) pda_nil))))) (pdss_one (pds_if (pdt_notinSN 2 hr (pd_varF 8)) (pdss_cons (pds_asg (pd_op op_addAll ro_add (pd_getSN 2 hr (pd_varF 6) (fun _ _ => rfl)) (pd_tup (pda_cons (pd_varF 7) pda_nil))) (pdg_subN 2 hr (pd_varF 8))) (pdss_one (pds_app 5 (pd_varF 8)))) pdss_nil)))))) (pdss_one (pds_set (i := 3) sc.nd rfl (by first | exact Or.inl rfl | exact Or.inr rfl) (pd_varF 5)))))) (pdss_one (pds_retS 2)))))
  unfold dc_sights_within at h
  exact ⟨_, der.run, body_of2 h der.mono⟩
theorem sc_open_rows : FnScope ["link", "sight", "firsts", "row", "state", "page"] ["link", "sight"] (defScope s_open_rows) := ⟨rfl, rfl, rfl, by decide +kernel, rfl, by decide +kernel, by decide +kernel⟩
theorem ok_open_rows (Γ : G P K mg C_Machine C_Link C_Refused C_TooGreat C_NoState) : FnOk P w K mg base (L2.CX P w) 5 Γ.f_open_rows Γ.fd_open_rows ["link", "sight"] (spD K 2 (dc_open_rows C_Machine C_Link C_Refused C_TooGreat C_NoState)) := by
  have sc := sc_open_rows
  refine FunD.ok Γ.F_open_rows sc (fun _ _ _ _ h => h.1) fun cdv A outer s H vs Q E hr h => ?_
  have tk : Takes (cxOf (L2.CX P w) P w K mg base ["link", "sight", "firsts", "row", "state", "page"] "open_rows" (defScope s_open_rows) Γ.f_open_rows cdv A outer s H E) (fun cls d _ H => E cls d H) := takes_of rfl rfl rfl rfl
  have hp : PassesOwn (model P w) (cxOf (L2.CX P w) P w K mg base ["link", "sight", "firsts", "row", "state", "page"] "open_rows" (defScope s_open_rows) Γ.f_open_rows cdv A outer s H E).A (cxOf (L2.CX P w) P w K mg base ["link", "sight", "firsts", "row", "state", "page"] "open_rows" (defScope s_open_rows) Γ.f_open_rows cdv A outer s H E).env (cxOf (L2.CX P w) P w K mg base ["link", "sight", "firsts", "row", "state", "page"] "open_rows" (defScope s_open_rows) Γ.f_open_rows cdv A outer s H E).xe := passes_of rfl
  have der : PDSs (cxOf (L2.CX P w) P w K mg base ["link", "sight", "firsts", "row", "state", "page"] "open_rows" (defScope s_open_rows) Γ.f_open_rows cdv A outer s H E) (fun cls d _ H => E cls d H) (defBody s_open_rows) (ds_open_rows C_Machine C_Link C_Refused C_TooGreat C_NoState) :=
    (pdss_cons (pds_own (i := 2) sc.nd rfl (by first | exact Or.inl rfl | exact Or.inr rfl) pn_dnewN) (pdss_cons (pds_for hp rfl (pdi_itemsN (pn_call dm_sights_within (ok_sights_within Γ) (hr.mono (by decide)) rfl Γ.m_sights_within Γ.F_sights_within.kp (b_sights_within Γ.F_sights_within) tk (pda_bor 0 (pda_cons (pd_varF 1) pda_nil)))) (pdg_tup rfl (pdgs_cons (pdg_tup rfl (pdgs_cons (pdg_name 4 sc.nd rfl (by first | exact Or.inl rfl | exact Or.inr rfl)) (pdgs_cons (pdg_name 5 sc.nd rfl (by first | exact Or.inl rfl | exact Or.inr rfl)) pdgs_nil))) (pdgs_cons (pdg_name 3 sc.nd rfl (by first | exact Or.inl rfl | exact Or.inr rfl)) pdgs_nil))) (pdss_cons (pds_if (pdt_inSN 2 hr (pd_varF 5)) (pdss_one (pds_ret (pd_tup (pda_cons (pd_getSN 2 hr (pd_varF 5) (fun _ _ => rfl)) (pda_cons (pd_varF 3) pda_nil))))) pdss_nil) (pdss_one (pds_asg (pd_varF 3) (pdg_subN 2 hr (pd_varF 5)))))) (pdss_one (pds_ret pd_none))))
  unfold dc_open_rows at h
  exact ⟨_, der.run, body_of2 h der.mono⟩
theorem sc_open_paper : FnScope ["link", "most", "sight", "ahead", "rows"] ["link", "most"] (defScope s_open_paper) := ⟨rfl, rfl, rfl, by decide +kernel, rfl, by decide +kernel, by decide +kernel⟩
theorem ok_open_paper (Γ : G P K mg C_Machine C_Link C_Refused C_TooGreat C_NoState) : FnOk P w K mg base (L2.CX P w) 6 Γ.f_open_paper Γ.fd_open_paper ["link", "most"] (spD K 2 (dc_open_paper C_Machine C_Link C_Refused C_TooGreat C_NoState)) := by
  have sc := sc_open_paper
  refine FunD.ok Γ.F_open_paper sc (fun _ _ _ _ h => h.1) fun cdv A outer s H vs Q E hr h => ?_
  have tk : Takes (cxOf (L2.CX P w) P w K mg base ["link", "most", "sight", "ahead", "rows"] "open_paper" (defScope s_open_paper) Γ.f_open_paper cdv A outer s H E) (fun cls d _ H => E cls d H) := takes_of rfl rfl rfl rfl
  have hp : PassesOwn (model P w) (cxOf (L2.CX P w) P w K mg base ["link", "most", "sight", "ahead", "rows"] "open_paper" (defScope s_open_paper) Γ.f_open_paper cdv A outer s H E).A (cxOf (L2.CX P w) P w K mg base ["link", "most", "sight", "ahead", "rows"] "open_paper" (defScope s_open_paper) Γ.f_open_paper cdv A outer s H E).env (cxOf (L2.CX P w) P w K mg base ["link", "most", "sight", "ahead", "rows"] "open_paper" (defScope s_open_paper) Γ.f_open_paper cdv A outer s H E).xe := passes_of rfl
  have der : PDSs (cxOf (L2.CX P w) P w K mg base ["link", "most", "sight", "ahead", "rows"] "open_paper" (defScope s_open_paper) Γ.f_open_paper cdv A outer s H E) (fun cls d _ H => E cls d H) (defBody s_open_paper) (ds_open_paper C_Machine C_Link C_Refused C_TooGreat C_NoState) :=
    (pdss_cons (pds_for hp rfl (pdi_itemsN (pn_call dm_sight_rows (ok_sight_rows Γ) (hr.mono (by decide)) rfl Γ.m_sight_rows Γ.F_sight_rows.kp (b_sight_rows Γ.F_sight_rows) tk (pda_bor 0 (pda_cons (pd_varF 1) pda_nil)))) (pdg_tup rfl (pdgs_cons (pdg_name 2 sc.nd rfl (by first | exact Or.inl rfl | exact Or.inr rfl)) (pdgs_cons (pdg_name 3 sc.nd rfl (by first | exact Or.inl rfl | exact Or.inr rfl)) pdgs_nil))) (pdss_cons (pds_set (i := 4) sc.nd rfl (by first | exact Or.inl rfl | exact Or.inr rfl) (pd_call dm_open_rows (ok_open_rows Γ) (hr.mono (by decide)) rfl Γ.m_open_rows Γ.F_open_rows.kp (b_open_rows Γ.F_open_rows) tk (pda_bor 0 (pda_cons (pd_varF 2) pda_nil)))) (pdss_one (pds_if (pdt_cmp op_notN ro_notN (pd_varF 4) pd_none (nomark _)) (pdss_one (pds_ret (pd_tup (pda_cons (pd_gstr rfl Γ.g_RUNS.1 Γ.g_RUNS.2) (pda_cons (pd_varF 3) (pda_cons (pd_ix (pd_varF 4) pd_int (fun _ _ => rfl)) (pda_cons (pd_ix (pd_varF 4) pd_int (fun _ _ => rfl)) pda_nil))))))) pdss_nil)))) (pdss_one (pds_ret pd_none)))
  unfold dc_open_paper at h
  exact ⟨_, der.run, body_of2 h der.mono⟩
theorem sc_Link___init__ : FnScope ["self", "machine", "first", "length", "loss", "modulus"] ["self", "machine", "first", "length", "loss", "modulus"] (defScope s_Link___init__) := ⟨rfl, rfl, rfl, by decide +kernel, rfl, by decide +kernel, by decide +kernel⟩
theorem ok_Link___init__ (Γ : G P K mg C_Machine C_Link C_Refused C_TooGreat C_NoState) : FnOk P w K mg base (L2.CX P w) 5 Γ.f_Link___init__ Γ.fd_Link___init__ ["self", "machine", "first", "length", "loss", "modulus"] (spD K 6 (dc_Link___init__ C_Machine C_Link C_Refused C_TooGreat C_NoState)) := by
  have sc := sc_Link___init__
  refine FunD.ok Γ.F_Link___init__ sc (fun _ _ _ _ h => h.1) fun cdv A outer s H vs Q E hr h => ?_
  have tk : Takes (cxOf (L2.CX P w) P w K mg base ["self", "machine", "first", "length", "loss", "modulus"] "Link.__init__" (defScope s_Link___init__) Γ.f_Link___init__ cdv A outer s H E) (fun cls d _ H => E cls d H) := takes_of rfl rfl rfl rfl
  have hp : PassesOwn (model P w) (cxOf (L2.CX P w) P w K mg base ["self", "machine", "first", "length", "loss", "modulus"] "Link.__init__" (defScope s_Link___init__) Γ.f_Link___init__ cdv A outer s H E).A (cxOf (L2.CX P w) P w K mg base ["self", "machine", "first", "length", "loss", "modulus"] "Link.__init__" (defScope s_Link___init__) Γ.f_Link___init__ cdv A outer s H E).env (cxOf (L2.CX P w) P w K mg base ["self", "machine", "first", "length", "loss", "modulus"] "Link.__init__" (defScope s_Link___init__) Γ.f_Link___init__ cdv A outer s H E).xe := passes_of rfl
  have der : PDSs (cxOf (L2.CX P w) P w K mg base ["self", "machine", "first", "length", "loss", "modulus"] "Link.__init__" (defScope s_Link___init__) Γ.f_Link___init__ cdv A outer s H E) (fun cls d _ H => E cls d H) (defBody s_Link___init__) (ds_Link___init__ C_Machine C_Link C_Refused C_TooGreat C_NoState) :=
    (pdss_cons (pds_expr (pd_call dm_need_state (ok_need_state Γ) (hr.mono (by decide)) rfl Γ.m_need_state Γ.F_need_state.kp (b_need_state Γ.F_need_state) tk (pda_cons (pd_varF 1) (pda_cons (pd_varF 2) pda_nil)))) (pdss_cons (pds_if (pdt_not (pdt_val (pd_call dm_is_within (ok_is_within Γ) (hr.mono (by decide)) rfl Γ.m_is_within Γ.F_is_within.kp (b_is_within Γ.F_is_within) tk (pda_cons (pd_varF 3) (pda_cons pd_int (pda_cons (pd_gint rfl Γ.g_MOST_LENGTH.1 Γ.g_MOST_LENGTH.2) pda_nil)))))) (pdss_one (pds_raiseK Γ.r_Refused hr (by decide) rfl rfl tk (pd_varF 3))) pdss_nil) (pdss_cons (pds_if (pdt_not (pdt_val (pd_call dm_is_within (ok_is_within Γ) (hr.mono (by decide)) rfl Γ.m_is_within Γ.F_is_within.kp (b_is_within Γ.F_is_within) tk (pda_cons (pd_varF 4) (pda_cons pd_int (pda_cons (pd_gint rfl Γ.g_MOST_LOSS.1 Γ.g_MOST_LOSS.2) pda_nil)))))) (pdss_one (pds_raiseK Γ.r_Refused hr (by decide) rfl rfl tk (pd_varF 4))) pdss_nil) (pdss_cons (pds_if (pdt_not (pdt_val (pd_call dm_is_within (ok_is_within Γ) (hr.mono (by decide)) rfl Γ.m_is_within Γ.F_is_within.kp (b_is_within Γ.F_is_within) tk (pda_cons (pd_varF 5) (pda_cons pd_int (pda_cons (pd_gint rfl Γ.g_MOST_MODULUS.1 Γ.g_MOST_MODULUS.2) pda_nil)))))) (pdss_one (pds_raiseK Γ.r_Refused hr (by decide) rfl rfl tk (pd_varF 5))) pdss_nil) (pdss_cons (pds_fld 0 Γ.cls_Link Γ.na_Link_machine (pd_varF 1)) (pdss_cons (pds_fld 0 Γ.cls_Link Γ.na_Link_first (pd_varF 2)) (pdss_cons (pds_fld 0 Γ.cls_Link Γ.na_Link_length (pd_varF 3)) (pdss_cons (pds_fld 0 Γ.cls_Link Γ.na_Link_loss (pd_varF 4)) (pdss_one (pds_fld 0 Γ.cls_Link Γ.na_Link_modulus (pd_varF 5)))))))))))
  unfold dc_Link___init__ at h
  exact ⟨_, der.run, body_of2 h der.mono⟩
theorem sc_least_length : FnScope ["machine", "first", "loss", "modulus", "most", "link", "length"] ["machine", "first", "loss", "modulus", "most"] (defScope s_least_length) := ⟨rfl, rfl, rfl, by decide +kernel, rfl, by decide +kernel, by decide +kernel⟩
theorem ok_least_length (Γ : G P K mg C_Machine C_Link C_Refused C_TooGreat C_NoState) : FnOk P w K mg base (L2.CX P w) 7 Γ.f_least_length Γ.fd_least_length ["machine", "first", "loss", "modulus", "most"] (spD K 5 (dc_least_length C_Machine C_Link C_Refused C_TooGreat C_NoState)) := by
  have sc := sc_least_length
  refine FunD.ok Γ.F_least_length sc (fun _ _ _ _ h => h.1) fun cdv A outer s H vs Q E hr h => ?_
  have tk : Takes (cxOf (L2.CX P w) P w K mg base ["machine", "first", "loss", "modulus", "most", "link", "length"] "least_length" (defScope s_least_length) Γ.f_least_length cdv A outer s H E) (fun cls d _ H => E cls d H) := takes_of rfl rfl rfl rfl
  have hp : PassesOwn (model P w) (cxOf (L2.CX P w) P w K mg base ["machine", "first", "loss", "modulus", "most", "link", "length"] "least_length" (defScope s_least_length) Γ.f_least_length cdv A outer s H E).A (cxOf (L2.CX P w) P w K mg base ["machine", "first", "loss", "modulus", "most", "link", "length"] "least_length" (defScope s_least_length) Γ.f_least_length cdv A outer s H E).env (cxOf (L2.CX P w) P w K mg base ["machine", "first", "loss", "modulus", "most", "link", "length"] "least_length" (defScope s_least_length) Γ.f_least_length cdv A outer s H E).xe := passes_of rfl
  have der : PDSs (cxOf (L2.CX P w) P w K mg base ["machine", "first", "loss", "modulus", "most", "link", "length"] "least_length" (defScope s_least_length) Γ.f_least_length cdv A outer s H E) (fun cls d _ H => E cls d H) (defBody s_least_length) (ds_least_length C_Machine C_Link C_Refused C_TooGreat C_NoState) :=
    (pdss_cons (pds_own (i := 5) sc.nd rfl (by first | exact Or.inl rfl | exact Or.inr rfl) (pn_make Γ.mk_Link dm_Link___init__ (ok_Link___init__ Γ) (hr.mono (by decide)) rfl Γ.mc_Link (b_Link___init__ Γ.F_Link___init__) (pda_cons (pd_varF 0) (pda_cons (pd_varF 1) (pda_cons pd_int (pda_cons (pd_varF 2) (pda_cons (pd_varF 3) pda_nil))))))) (pdss_cons (pds_for hp rfl (pdi_r1 rfl Γ.b_range (pda_cons (pd_op op_addAll ro_add (pd_op op_mulAll ro_mul (pd_op op_sub ro_int0 (pd_attr Γ.cls_Machine Γ.na_Machine_states rfl (by decide +kernel) (pd_varF 0)) pd_int) (pd_varF 2)) pd_int) pda_nil)) (pdg_name 6 sc.nd rfl (by first | exact Or.inl rfl | exact Or.inr rfl)) (pdss_cons (pds_fld 5 Γ.cls_Link Γ.na_Link_length (pd_varF 6)) (pdss_one (pds_if (pdt_cmp op_isN ro_isN (pd_call dm_open_paper (ok_open_paper Γ) (hr.mono (by decide)) rfl Γ.m_open_paper Γ.F_open_paper.kp (b_open_paper Γ.F_open_paper) tk (pda_bor 5 (pda_cons (pd_varF 4) pda_nil))) pd_none (nomark _)) (pdss_one (pds_ret (pd_varF 6))) pdss_nil)))) (pdss_one (pds_ret pd_none))))
  unfold dc_least_length at h
  exact ⟨_, der.run, body_of2 h der.mono⟩
theorem sc_is_within_loss : FnScope ["value"] ["value"] (defScope s_is_within_loss) := ⟨rfl, rfl, rfl, by decide +kernel, rfl, by decide +kernel, by decide +kernel⟩
theorem ok_is_within_loss (Γ : G P K mg C_Machine C_Link C_Refused C_TooGreat C_NoState) : FnOk P w K mg base (L2.CX P w) 3 Γ.f_is_within_loss Γ.fd_is_within_loss ["value"] (spD K 1 (dc_is_within_loss C_Machine C_Link C_Refused C_TooGreat C_NoState)) := by
  have sc := sc_is_within_loss
  refine FunD.ok Γ.F_is_within_loss sc (fun _ _ _ _ h => h.1) fun cdv A outer s H vs Q E hr h => ?_
  have tk : Takes (cxOf (L2.CX P w) P w K mg base ["value"] "is_within_loss" (defScope s_is_within_loss) Γ.f_is_within_loss cdv A outer s H E) (fun cls d _ H => E cls d H) := takes_of rfl rfl rfl rfl
  have hp : PassesOwn (model P w) (cxOf (L2.CX P w) P w K mg base ["value"] "is_within_loss" (defScope s_is_within_loss) Γ.f_is_within_loss cdv A outer s H E).A (cxOf (L2.CX P w) P w K mg base ["value"] "is_within_loss" (defScope s_is_within_loss) Γ.f_is_within_loss cdv A outer s H E).env (cxOf (L2.CX P w) P w K mg base ["value"] "is_within_loss" (defScope s_is_within_loss) Γ.f_is_within_loss cdv A outer s H E).xe := passes_of rfl
  have der : PDSs (cxOf (L2.CX P w) P w K mg base ["value"] "is_within_loss" (defScope s_is_within_loss) Γ.f_is_within_loss cdv A outer s H E) (fun cls d _ H => E cls d H) (defBody s_is_within_loss) (ds_is_within_loss C_Machine C_Link C_Refused C_TooGreat C_NoState) :=
    (pdss_one (pds_ret (pd_call dm_is_within (ok_is_within Γ) (hr.mono (by decide)) rfl Γ.m_is_within Γ.F_is_within.kp (b_is_within Γ.F_is_within) tk (pda_cons (pd_varF 0) (pda_cons pd_int (pda_cons (pd_gint rfl Γ.g_MOST_LOSS.1 Γ.g_MOST_LOSS.2) pda_nil))))))
  unfold dc_is_within_loss at h
  exact ⟨_, der.run, body_of2 h der.mono⟩
theorem sc_need_loss : FnScope ["value"] ["value"] (defScope s_need_loss) := ⟨rfl, rfl, rfl, by decide +kernel, rfl, by decide +kernel, by decide +kernel⟩
theorem ok_need_loss (Γ : G P K mg C_Machine C_Link C_Refused C_TooGreat C_NoState) : FnOk P w K mg base (L2.CX P w) 4 Γ.f_need_loss Γ.fd_need_loss ["value"] (spD K 1 (dc_need_loss C_Machine C_Link C_Refused C_TooGreat C_NoState)) := by
  have sc := sc_need_loss
  refine FunD.ok Γ.F_need_loss sc (fun _ _ _ _ h => h.1) fun cdv A outer s H vs Q E hr h => ?_
  have tk : Takes (cxOf (L2.CX P w) P w K mg base ["value"] "need_loss" (defScope s_need_loss) Γ.f_need_loss cdv A outer s H E) (fun cls d _ H => E cls d H) := takes_of rfl rfl rfl rfl
  have hp : PassesOwn (model P w) (cxOf (L2.CX P w) P w K mg base ["value"] "need_loss" (defScope s_need_loss) Γ.f_need_loss cdv A outer s H E).A (cxOf (L2.CX P w) P w K mg base ["value"] "need_loss" (defScope s_need_loss) Γ.f_need_loss cdv A outer s H E).env (cxOf (L2.CX P w) P w K mg base ["value"] "need_loss" (defScope s_need_loss) Γ.f_need_loss cdv A outer s H E).xe := passes_of rfl
  have der : PDSs (cxOf (L2.CX P w) P w K mg base ["value"] "need_loss" (defScope s_need_loss) Γ.f_need_loss cdv A outer s H E) (fun cls d _ H => E cls d H) (defBody s_need_loss) (ds_need_loss C_Machine C_Link C_Refused C_TooGreat C_NoState) :=
    (pdss_cons (pds_if (pdt_not (pdt_val (pd_call dm_is_within_loss (ok_is_within_loss Γ) (hr.mono (by decide)) rfl Γ.m_is_within_loss Γ.F_is_within_loss.kp (b_is_within_loss Γ.F_is_within_loss) tk (pda_cons (pd_varF 0) pda_nil)))) (pdss_one (pds_raiseK Γ.r_Refused hr (by decide) rfl rfl tk (pd_varF 0))) pdss_nil) (pdss_one (pds_ret (pd_varF 0))))
  unfold dc_need_loss at h
  exact ⟨_, der.run, body_of2 h der.mono⟩
theorem sc_rows_count : FnScope ["machine", "length", "found", "_"] ["machine", "length"] (defScope s_rows_count) := ⟨rfl, rfl, rfl, by decide +kernel, rfl, by decide +kernel, by decide +kernel⟩
theorem ok_rows_count (Γ : G P K mg C_Machine C_Link C_Refused C_TooGreat C_NoState) : FnOk P w K mg base (L2.CX P w) 1 Γ.f_rows_count Γ.fd_rows_count ["machine", "length"] (spD K 2 (dc_rows_count C_Machine C_Link C_Refused C_TooGreat C_NoState)) := by
  have sc := sc_rows_count
  refine FunD.ok Γ.F_rows_count sc (fun _ _ _ _ h => h.1) fun cdv A outer s H vs Q E hr h => ?_
  have tk : Takes (cxOf (L2.CX P w) P w K mg base ["machine", "length", "found", "_"] "rows_count" (defScope s_rows_count) Γ.f_rows_count cdv A outer s H E) (fun cls d _ H => E cls d H) := takes_of rfl rfl rfl rfl
  have hp : PassesOwn (model P w) (cxOf (L2.CX P w) P w K mg base ["machine", "length", "found", "_"] "rows_count" (defScope s_rows_count) Γ.f_rows_count cdv A outer s H E).A (cxOf (L2.CX P w) P w K mg base ["machine", "length", "found", "_"] "rows_count" (defScope s_rows_count) Γ.f_rows_count cdv A outer s H E).env (cxOf (L2.CX P w) P w K mg base ["machine", "length", "found", "_"] "rows_count" (defScope s_rows_count) Γ.f_rows_count cdv A outer s H E).xe := passes_of rfl
  have der : PDSs (cxOf (L2.CX P w) P w K mg base ["machine", "length", "found", "_"] "rows_count" (defScope s_rows_count) Γ.f_rows_count cdv A outer s H E) (fun cls d _ H => E cls d H) (defBody s_rows_count) (ds_rows_count C_Machine C_Link C_Refused C_TooGreat C_NoState) :=
    (pdss_cons (pds_set (i := 2) sc.nd rfl (by first | exact Or.inl rfl | exact Or.inr rfl) pd_int) (pdss_cons (pds_for hp rfl (pdi_r1 rfl Γ.b_range (pda_cons (pd_varF 1) pda_nil)) (pdg_name 3 sc.nd rfl (by first | exact Or.inl rfl | exact Or.inr rfl)) (pdss_one (pds_set (i := 2) sc.nd rfl (by first | exact Or.inl rfl | exact Or.inr rfl) (pd_op op_mulAll ro_mul (pd_varF 2) (pd_attr Γ.cls_Machine Γ.na_Machine_deeds rfl (by decide +kernel) (pd_varF 0)))))) (pdss_one (pds_ret (pd_varF 2)))))
  unfold dc_rows_count at h
  exact ⟨_, der.run, body_of2 h der.mono⟩
theorem sc_page_count : FnScope ["link", "short", "many"] ["link"] (defScope s_page_count) := ⟨rfl, rfl, rfl, by decide +kernel, rfl, by decide +kernel, by decide +kernel⟩
theorem ok_page_count (Γ : G P K mg C_Machine C_Link C_Refused C_TooGreat C_NoState) : FnOk P w K mg base (L2.CX P w) 2 Γ.f_page_count Γ.fd_page_count ["link"] (spD K 1 (dc_page_count C_Machine C_Link C_Refused C_TooGreat C_NoState)) := by
  have sc := sc_page_count
  refine FunD.ok Γ.F_page_count sc (fun _ _ _ _ h => h.1) fun cdv A outer s H vs Q E hr h => ?_
  have tk : Takes (cxOf (L2.CX P w) P w K mg base ["link", "short", "many"] "page_count" (defScope s_page_count) Γ.f_page_count cdv A outer s H E) (fun cls d _ H => E cls d H) := takes_of rfl rfl rfl rfl
  have hp : PassesOwn (model P w) (cxOf (L2.CX P w) P w K mg base ["link", "short", "many"] "page_count" (defScope s_page_count) Γ.f_page_count cdv A outer s H E).A (cxOf (L2.CX P w) P w K mg base ["link", "short", "many"] "page_count" (defScope s_page_count) Γ.f_page_count cdv A outer s H E).env (cxOf (L2.CX P w) P w K mg base ["link", "short", "many"] "page_count" (defScope s_page_count) Γ.f_page_count cdv A outer s H E).xe := passes_of rfl
  have der : PDSs (cxOf (L2.CX P w) P w K mg base ["link", "short", "many"] "page_count" (defScope s_page_count) Γ.f_page_count cdv A outer s H E) (fun cls d _ H => E cls d H) (defBody s_page_count) (ds_page_count C_Machine C_Link C_Refused C_TooGreat C_NoState) :=
    (pdss_cons (pds_set (i := 1) sc.nd rfl (by first | exact Or.inl rfl | exact Or.inr rfl) (pd_callB (cr_sum rfl) rc_sum rfl Γ.b_sum rfl (pda_cons (pd_fz (pn_lc (own := [("many", 2)]) (g := (gName 2)) rfl sc.nd (pdi_r1 rfl Γ.b_range (pda_cons (pd_attr Γ.cls_Link Γ.na_Link_length rfl (by decide +kernel) (pd_varF 0)) pda_nil)) (blkOk_by (by kernel_rfl)) rfl (fun _ _ _ _ _ => (pdg_name 2 sc.nd rfl (by first | exact Or.inl rfl | exact Or.inr rfl))) (by decide) (fun _ _ _ _ _ => pdts_nil) (fun _ _ _ _ _ => (pd_call dm_rows_count (ok_rows_count Γ) (hr.mono (by decide)) rfl Γ.m_rows_count Γ.F_rows_count.kp (b_rows_count Γ.F_rows_count) takes0 (pda_cons (pd_attr Γ.cls_Link Γ.na_Link_machine rfl (by decide +kernel) (pd_varF 0)) (pda_cons (pd_varF 2) pda_nil)))))) pda_nil))) (pdss_one (pds_ret (pd_op op_addAll ro_add (pd_varF 1) (pd_op op_mulAll ro_mul (pd_attr Γ.cls_Link Γ.na_Link_modulus rfl (by decide +kernel) (pd_varF 0)) (pd_call dm_rows_count (ok_rows_count Γ) (hr.mono (by decide)) rfl Γ.m_rows_count Γ.F_rows_count.kp (b_rows_count Γ.F_rows_count) tk (pda_cons (pd_attr Γ.cls_Link Γ.na_Link_machine rfl (by decide +kernel) (pd_varF 0)) (pda_cons (pd_attr Γ.cls_Link Γ.na_Link_length rfl (by decide +kernel) (pd_varF 0)) pda_nil))))))))
  unfold dc_page_count at h
  exact ⟨_, der.run, body_of2 h der.mono⟩
theorem sc_lengths_by_modulus : FnScope ["machine", "first", "loss", "modulus"] ["machine", "first", "loss"] (defScope s_lengths_by_modulus) := ⟨rfl, rfl, rfl, by decide +kernel, rfl, by decide +kernel, by decide +kernel⟩
theorem ok_lengths_by_modulus (Γ : G P K mg C_Machine C_Link C_Refused C_TooGreat C_NoState) : FnOk P w K mg base (L2.CX P w) 8 Γ.f_lengths_by_modulus Γ.fd_lengths_by_modulus ["machine", "first", "loss"] (spD K 3 (dc_lengths_by_modulus C_Machine C_Link C_Refused C_TooGreat C_NoState)) := by
  have sc := sc_lengths_by_modulus
  refine FunD.ok Γ.F_lengths_by_modulus sc (fun _ _ _ _ h => h.1) fun cdv A outer s H vs Q E hr h => ?_
  have tk : Takes (cxOf (L2.CX P w) P w K mg base ["machine", "first", "loss", "modulus"] "lengths_by_modulus" (defScope s_lengths_by_modulus) Γ.f_lengths_by_modulus cdv A outer s H E) (fun cls d _ H => E cls d H) := takes_of rfl rfl rfl rfl
  have hp : PassesOwn (model P w) (cxOf (L2.CX P w) P w K mg base ["machine", "first", "loss", "modulus"] "lengths_by_modulus" (defScope s_lengths_by_modulus) Γ.f_lengths_by_modulus cdv A outer s H E).A (cxOf (L2.CX P w) P w K mg base ["machine", "first", "loss", "modulus"] "lengths_by_modulus" (defScope s_lengths_by_modulus) Γ.f_lengths_by_modulus cdv A outer s H E).env (cxOf (L2.CX P w) P w K mg base ["machine", "first", "loss", "modulus"] "lengths_by_modulus" (defScope s_lengths_by_modulus) Γ.f_lengths_by_modulus cdv A outer s H E).xe := passes_of rfl
  have der : PDSs (cxOf (L2.CX P w) P w K mg base ["machine", "first", "loss", "modulus"] "lengths_by_modulus" (defScope s_lengths_by_modulus) Γ.f_lengths_by_modulus cdv A outer s H E) (fun cls d _ H => E cls d H) (defBody s_lengths_by_modulus) (ds_lengths_by_modulus C_Machine C_Link C_Refused C_TooGreat C_NoState) :=
    (pdss_cons (pds_expr (pd_call dm_need_state (ok_need_state Γ) (hr.mono (by decide)) rfl Γ.m_need_state Γ.F_need_state.kp (b_need_state Γ.F_need_state) tk (pda_cons (pd_varF 0) (pda_cons (pd_varF 1) pda_nil)))) (pdss_cons (pds_expr (pd_call dm_need_loss (ok_need_loss Γ) (hr.mono (by decide)) rfl Γ.m_need_loss Γ.F_need_loss.kp (b_need_loss Γ.F_need_loss) tk (pda_cons (pd_varF 2) pda_nil))) (pdss_one (pds_ret (pd_callTy call_tuple_of rc_tuple rfl Γ.b_tuple rfl (pda_cons (pd_fz (pn_lc (own := [("modulus", 3)]) (g := (gName 3)) rfl sc.nd (pdi_r2 rfl Γ.b_range (pda_cons pd_int (pda_cons (pd_op op_addAll ro_add (pd_varF 2) pd_int) pda_nil))) (blkOk_by (by kernel_rfl)) rfl (fun _ _ _ _ _ => (pdg_name 3 sc.nd rfl (by first | exact Or.inl rfl | exact Or.inr rfl))) (by decide) (fun _ _ _ _ _ => pdts_nil) (fun _ _ _ _ _ => (pd_callD dm_least_length (ok_least_length Γ) (hr.mono (by decide)) rfl Γ.m_least_length Γ.F_least_length.kp (bdk_least_length Γ.F_least_length).choose_spec.2 (bdk_least_length Γ.F_least_length).choose_spec.1 (fun F => dflk_least_length) takes0 (pda_cons (pd_varF 0) (pda_cons (pd_varF 1) (pda_cons (pd_varF 2) (pda_cons (pd_varF 3) pda_nil)))))))) pda_nil))))))
  unfold dc_lengths_by_modulus at h
  exact ⟨_, der.run, body_of2 h der.mono⟩
theorem sc__law_box : FnScope ["script", "k", "cell", "great"] ["script", "k"] (defScope s__law_box) := ⟨rfl, rfl, rfl, by decide +kernel, rfl, by decide +kernel, by decide +kernel⟩
theorem ok__law_box (Γ : G P K mg C_Machine C_Link C_Refused C_TooGreat C_NoState) : FnOk P w K mg base (L2.CX P w) 1 Γ.f__law_box Γ.fd__law_box ["script", "k"] (spD K 2 (dc__law_box C_Machine C_Link C_Refused C_TooGreat C_NoState)) := by
  have sc := sc__law_box
  refine FunD.ok Γ.F__law_box sc (fun _ _ _ _ h => h.1) fun cdv A outer s H vs Q E hr h => ?_
  have tk : Takes (cxOf (L2.CX P w) P w K mg base ["script", "k", "cell", "great"] "_law_box" (defScope s__law_box) Γ.f__law_box cdv A outer s H E) (fun cls d _ H => E cls d H) := takes_of rfl rfl rfl rfl
  have hp : PassesOwn (model P w) (cxOf (L2.CX P w) P w K mg base ["script", "k", "cell", "great"] "_law_box" (defScope s__law_box) Γ.f__law_box cdv A outer s H E).A (cxOf (L2.CX P w) P w K mg base ["script", "k", "cell", "great"] "_law_box" (defScope s__law_box) Γ.f__law_box cdv A outer s H E).env (cxOf (L2.CX P w) P w K mg base ["script", "k", "cell", "great"] "_law_box" (defScope s__law_box) Γ.f__law_box cdv A outer s H E).xe := passes_of rfl
  have der : PDSs (cxOf (L2.CX P w) P w K mg base ["script", "k", "cell", "great"] "_law_box" (defScope s__law_box) Γ.f__law_box cdv A outer s H E) (fun cls d _ H => E cls d H) (defBody s__law_box) (ds__law_box C_Machine C_Link C_Refused C_TooGreat C_NoState) :=
    (pdss_cons (pds_set (i := 2) sc.nd rfl (by first | exact Or.inl rfl | exact Or.inr rfl) (pd_op op_addAll ro_add (pd_op op_mulAll ro_mul pd_int (pd_varF 1)) pd_int)) (pdss_cons (pds_if (pdt_cmp op_lt ro_boo0 (pd_varF 1) (pd_callB call_len rc_len rfl Γ.b_len rfl (pda_cons (pd_varF 0) pda_nil)) (nomark _)) (pdss_one (pds_set (i := 2) sc.nd rfl (by first | exact Or.inl rfl | exact Or.inr rfl) (pd_callB call_abs rc_abs rfl Γ.b_abs rfl (pda_cons (pd_callTy call_int1 rc_int rfl Γ.b_int rfl (pda_cons (pd_ix (pd_varF 0) (pd_varF 1) (fun _ _ => rfl)) pda_nil)) pda_nil)))) (pdss_one (pds_if (pdt_cmp op_gt ro_boo0 (pd_callB call_len rc_len rfl Γ.b_len rfl (pda_cons (pd_varF 0) pda_nil)) pd_int (nomark _)) (pdss_one (pds_set (i := 2) sc.nd rfl (by first | exact Or.inl rfl | exact Or.inr rfl) (pd_op op_addAll ro_add (pd_varF 2) (pd_op op_mulAll ro_mul (pd_op op_mod ro_int (pd_callTy call_int1 rc_int rfl Γ.b_int rfl (pda_cons (pd_callB call_abs rc_abs rfl Γ.b_abs rfl (pda_cons (pd_callTy call_int1 rc_int rfl Γ.b_int rfl (pda_cons (pd_ix (pd_varF 0) (pd_op op_mod ro_int (pd_callTy call_int1 rc_int rfl Γ.b_int rfl (pda_cons (pd_varF 1) pda_nil)) (pd_callB call_len rc_len rfl Γ.b_len rfl (pda_cons (pd_varF 0) pda_nil))) (fun _ _ => rfl)) pda_nil)) pda_nil)) pda_nil)) pd_int) pd_int)))) pdss_nil))) (pdss_cons (pds_set (i := 3) sc.nd rfl (by first | exact Or.inl rfl | exact Or.inr rfl) (pd_ifExp (pdt_cmp op_ge ro_boo0 (pd_varF 2) (pd_op op_pow ro_int pd_int pd_int) (nomark _)) (pd_varF 2) pd_int)) (pdss_one (pds_retN (pn_lst (pda_cons (pd_varF 3) (pda_cons (pd_op op_addAll ro_add (pd_op op_mod ro_int (pd_callTy call_int1 rc_int rfl Γ.b_int rfl (pda_cons (pd_op op_addAll ro_add (pd_op op_mulAll ro_mul (pd_op op_mod ro_int (pd_callTy call_int1 rc_int rfl Γ.b_int rfl (pda_cons (pd_varF 2) pda_nil)) pd_int) pd_int) (pd_op op_mulAll ro_mul pd_int (pd_varF 1))) pda_nil)) pd_int) pd_int) pda_nil))))))))
  unfold dc__law_box at h
  exact ⟨_, der.run, body_of2 h der.mono⟩
theorem sc__law_take : FnScope ["box", "many", "raw", "digit"] ["box", "many"] (defScope s__law_take) := ⟨rfl, rfl, rfl, by decide +kernel, rfl, by decide +kernel, by decide +kernel⟩
theorem ok__law_take (Γ : G P K mg C_Machine C_Link C_Refused C_TooGreat C_NoState) : FnOk P w K mg base (L2.CX P w) 1 Γ.f__law_take Γ.fd__law_take ["box", "many"] (spD K 2 (dc__law_take C_Machine C_Link C_Refused C_TooGreat C_NoState)) := by
  have sc := sc__law_take
  refine FunD.ok Γ.F__law_take sc (fun _ _ _ _ h => h.1) fun cdv A outer s H vs Q E hr h => ?_
  have tk : Takes (cxOf (L2.CX P w) P w K mg base ["box", "many", "raw", "digit"] "_law_take" (defScope s__law_take) Γ.f__law_take cdv A outer s H E) (fun cls d _ H => E cls d H) := takes_of rfl rfl rfl rfl
  have hp : PassesOwn (model P w) (cxOf (L2.CX P w) P w K mg base ["box", "many", "raw", "digit"] "_law_take" (defScope s__law_take) Γ.f__law_take cdv A outer s H E).A (cxOf (L2.CX P w) P w K mg base ["box", "many", "raw", "digit"] "_law_take" (defScope s__law_take) Γ.f__law_take cdv A outer s H E).env (cxOf (L2.CX P w) P w K mg base ["box", "many", "raw", "digit"] "_law_take" (defScope s__law_take) Γ.f__law_take cdv A outer s H E).xe := passes_of rfl
  have der : PDSs (cxOf (L2.CX P w) P w K mg base ["box", "many", "raw", "digit"] "_law_take" (defScope s__law_take) Γ.f__law_take cdv A outer s H E) (fun cls d _ H => E cls d H) (defBody s__law_take) (ds__law_take C_Machine C_Link C_Refused C_TooGreat C_NoState) :=
    (pdss_cons (pds_if (pdt_cmp op_gt ro_boo0 (pd_ixS 0 pd_int (fun _ _ => rfl)) pd_int (nomark _)) (pdss_cons (pds_set (i := 3) sc.nd rfl (by first | exact Or.inl rfl | exact Or.inr rfl) (pd_op op_mod ro_int (pd_callTy call_int1 rc_int rfl Γ.b_int rfl (pda_cons (pd_ixS 0 pd_int (fun _ _ => rfl)) pda_nil)) (pd_varF 1))) (pdss_cons (pds_asg (pd_op op_fdiv ro_int (pd_ixS 0 pd_int (fun _ _ => rfl)) (pd_varF 1)) (pdg_sub 0 hr pd_int)) (pdss_one (pds_ret (pd_varF 3))))) pdss_nil) (pdss_cons (pds_set (i := 2) sc.nd rfl (by first | exact Or.inl rfl | exact Or.inr rfl) (pd_op op_mod ro_int (pd_callTy call_int1 rc_int rfl Γ.b_int rfl (pda_cons (pd_op op_addAll ro_add (pd_op op_mulAll ro_mul (pd_ixS 0 pd_int (fun _ _ => rfl)) pd_int) pd_int) pda_nil)) pd_int)) (pdss_cons (pds_asg (pd_op op_addAll ro_add (pd_op op_mod ro_int (pd_callTy call_int1 rc_int rfl Γ.b_int rfl (pda_cons (pd_op op_addAll ro_add (pd_op op_mulAll ro_mul (pd_varF 2) pd_int) pd_int) pda_nil)) pd_int) pd_int) (pdg_sub 0 hr pd_int)) (pdss_one (pds_ret (pd_op op_mod ro_int (pd_callTy call_int1 rc_int rfl Γ.b_int rfl (pda_cons (pd_op op_fdiv ro_int (pd_op op_addAll ro_add (pd_op op_mulAll ro_mul (pd_varF 2) pd_int) (pd_ixS 0 pd_int (fun _ _ => rfl))) pd_int) pda_nil)) (pd_varF 1)))))))
  unfold dc__law_take at h
  exact ⟨_, der.run, body_of2 h der.mono⟩
theorem sc__law_pick : FnScope ["box", "some"] ["box", "some"] (defScope s__law_pick) := ⟨rfl, rfl, rfl, by decide +kernel, rfl, by decide +kernel, by decide +kernel⟩
theorem ok__law_pick (Γ : G P K mg C_Machine C_Link C_Refused C_TooGreat C_NoState) : FnOk P w K mg base (L2.CX P w) 2 Γ.f__law_pick Γ.fd__law_pick ["box", "some"] (spD K 2 (dc__law_pick C_Machine C_Link C_Refused C_TooGreat C_NoState)) := by
  have sc := sc__law_pick
  refine FunD.ok Γ.F__law_pick sc (fun _ _ _ _ h => h.1) fun cdv A outer s H vs Q E hr h => ?_
  have tk : Takes (cxOf (L2.CX P w) P w K mg base ["box", "some"] "_law_pick" (defScope s__law_pick) Γ.f__law_pick cdv A outer s H E) (fun cls d _ H => E cls d H) := takes_of rfl rfl rfl rfl
  have hp : PassesOwn (model P w) (cxOf (L2.CX P w) P w K mg base ["box", "some"] "_law_pick" (defScope s__law_pick) Γ.f__law_pick cdv A outer s H E).A (cxOf (L2.CX P w) P w K mg base ["box", "some"] "_law_pick" (defScope s__law_pick) Γ.f__law_pick cdv A outer s H E).env (cxOf (L2.CX P w) P w K mg base ["box", "some"] "_law_pick" (defScope s__law_pick) Γ.f__law_pick cdv A outer s H E).xe := passes_of rfl
  have der : PDSs (cxOf (L2.CX P w) P w K mg base ["box", "some"] "_law_pick" (defScope s__law_pick) Γ.f__law_pick cdv A outer s H E) (fun cls d _ H => E cls d H) (defBody s__law_pick) (ds__law_pick C_Machine C_Link C_Refused C_TooGreat C_NoState) :=
    (pdss_one (pds_ret (pd_ix (pd_varF 1) (pd_call dm__law_take (ok__law_take Γ) (hr.mono (by decide)) rfl Γ.m__law_take Γ.F__law_take.kp (b__law_take Γ.F__law_take) tk (pda_bor 0 (pda_cons (pd_callB call_len rc_len rfl Γ.b_len rfl (pda_cons (pd_varF 1) pda_nil)) pda_nil))) (fun _ _ => rfl))))
  unfold dc__law_pick at h
  exact ⟨_, der.run, body_of2 h der.mono⟩
theorem sc__law_tables : FnScope ["box", "most", "kinds", "deed", "states", "found", "table", "style", "by", "state"] ["box", "most", "kinds"] (defScope s__law_tables) := ⟨rfl, rfl, rfl, by decide +kernel, rfl, by decide +kernel, by decide +kernel⟩
theorem ok__law_tables (Γ : G P K mg C_Machine C_Link C_Refused C_TooGreat C_NoState) : FnOk P w K mg base (L2.CX P w) 2 Γ.f__law_tables Γ.fd__law_tables ["box", "most", "kinds"] (spD K 3 (dc__law_tables C_Machine C_Link C_Refused C_TooGreat C_NoState)) := by
  have sc := sc__law_tables
  refine FunD.ok Γ.F__law_tables sc (fun _ _ _ _ h => h.1) fun cdv A outer s H vs Q E hr h => ?_
  have tk : Takes (cxOf (L2.CX P w) P w K mg base ["box", "most", "kinds", "deed", "states", "found", "table", "style", "by", "state"] "_law_tables" (defScope s__law_tables) Γ.f__law_tables cdv A outer s H E) (fun cls d _ H => E cls d H) := takes_of rfl rfl rfl rfl
  have hp : PassesOwn (model P w) (cxOf (L2.CX P w) P w K mg base ["box", "most", "kinds", "deed", "states", "found", "table", "style", "by", "state"] "_law_tables" (defScope s__law_tables) Γ.f__law_tables cdv A outer s H E).A (cxOf (L2.CX P w) P w K mg base ["box", "most", "kinds", "deed", "states", "found", "table", "style", "by", "state"] "_law_tables" (defScope s__law_tables) Γ.f__law_tables cdv A outer s H E).env (cxOf (L2.CX P w) P w K mg base ["box", "most", "kinds", "deed", "states", "found", "table", "style", "by", "state"] "_law_tables" (defScope s__law_tables) Γ.f__law_tables cdv A outer s H E).xe := passes_of rfl
  have der : PDSs (cxOf (L2.CX P w) P w K mg base ["box", "most", "kinds", "deed", "states", "found", "table", "style", "by", "state"] "_law_tables" (defScope s__law_tables) Γ.f__law_tables cdv A outer s H E) (fun cls d _ H => E cls d H) (defBody s__law_tables) (ds__law_tables C_Machine C_Link C_Refused C_TooGreat C_NoState) :=
    (pdss_cons (pds_parT (n := 2) rfl rfl (by decide) (pns_cons (i := 4) (pns_cons (i := 5) pns_nil sc.nd rfl (by first | exact Or.inl rfl | exact Or.inr rfl)) sc.nd rfl (by first | exact Or.inl rfl | exact Or.inr rfl)) (pm_d (pd_op op_addAll ro_add pd_int (pd_call dm__law_take (ok__law_take Γ) (hr.mono (by decide)) rfl Γ.m__law_take Γ.F__law_take.kp (b__law_take Γ.F__law_take) tk (pda_bor 0 (pda_cons (pd_varF 1) pda_nil)))) (pm_n (pn_lst pda_nil) pm_nil))) (pdss_cons (pds_for hp rfl (pdi_r1 rfl Γ.b_range (pda_cons (pd_op op_addAll ro_add pd_int (pd_call dm__law_take (ok__law_take Γ) (hr.mono (by decide)) rfl Γ.m__law_take Γ.F__law_take.kp (b__law_take Γ.F__law_take) tk (pda_bor 0 (pda_cons (pd_varF 2) pda_nil)))) pda_nil)) (pdg_name 3 sc.nd rfl (by first | exact Or.inl rfl | exact Or.inr rfl)) (pdss_cons (pds_parT (n := 2) rfl rfl (by decide) (pns_cons (i := 7) (pns_cons (i := 8) pns_nil sc.nd rfl (by first | exact Or.inl rfl | exact Or.inr rfl)) sc.nd rfl (by first | exact Or.inl rfl | exact Or.inr rfl)) (pm_d (pd_call dm__law_take (ok__law_take Γ) (hr.mono (by decide)) rfl Γ.m__law_take Γ.F__law_take.kp (b__law_take Γ.F__law_take) tk (pda_bor 0 (pda_cons pd_int pda_nil))) (pm_d (pd_call dm__law_take (ok__law_take Γ) (hr.mono (by decide)) rfl Γ.m__law_take Γ.F__law_take.kp (b__law_take Γ.F__law_take) tk (pda_bor 0 (pda_cons (pd_varF 4) pda_nil))) pm_nil))) (pdss_cons (pds_own (i := 6) sc.nd rfl (by first | exact Or.inl rfl | exact Or.inr rfl) (pn_lc (own := [("state", 9)]) (g := (gName 9)) rfl sc.nd (pdi_r1 rfl Γ.b_range (pda_cons (pd_varF 4) pda_nil)) (blkOk_by (by kernel_rfl)) rfl (fun _ _ _ _ _ => (pdg_name 9 sc.nd rfl (by first | exact Or.inl rfl | exact Or.inr rfl))) (by decide) (fun _ _ _ _ _ => pdts_nil) (fun _ _ _ _ _ => (pd_call dm__law_take (ok__law_take Γ) (hr.mono (by decide)) rfl Γ.m__law_take Γ.F__law_take.kp (b__law_take Γ.F__law_take) takes0 (pda_bor 0 (pda_cons (pd_varF 4) pda_nil)))))) (pdss_cons (pds_if (pdt_cmp (op_eqD hr.units) ro_eq (pd_varF 7) pd_int (nomark _)) (pdss_one (pds_own (i := 6) sc.nd rfl (by first | exact Or.inl rfl | exact Or.inr rfl) (pn_lc (own := [("state", 9)]) (g := (gName 9)) rfl sc.nd (pdi_r1 rfl Γ.b_range (pda_cons (pd_varF 4) pda_nil)) (blkOk_by (by kernel_rfl)) rfl (fun _ _ _ _ _ => (pdg_name 9 sc.nd rfl (by first | exact Or.inl rfl | exact Or.inr rfl))) (by decide) (fun _ _ _ _ _ => pdts_nil) (fun _ _ _ _ _ => (pd_callB (call_min2 rfl) rc_min rfl Γ.b_min rfl (pda_cons (pd_op op_sub ro_int0 (pd_varF 4) pd_int) (pda_cons (pd_op op_addAll ro_add (pd_varF 9) pd_int) pda_nil))))))) pdss_nil) (pdss_cons (pds_if (pdt_cmp (op_eqD hr.units) ro_eq (pd_varF 7) pd_int (nomark _)) (pdss_one (pds_set (i := 6) sc.nd rfl (by first | exact Or.inl rfl | exact Or.inr rfl) (pd_op op_mulAll ro_mul (pd_lst (pda_cons (pd_varF 8) pda_nil)) (pd_varF 4)))) pdss_nil) (pdss_cons (pds_if (pdt_cmp (op_eqD hr.units) ro_eq (pd_varF 7) pd_int (nomark _)) (pdss_one (pds_own (i := 6) sc.nd rfl (by first | exact Or.inl rfl | exact Or.inr rfl) (pn_lc (own := [("state", 9)]) (g := (gName 9)) rfl sc.nd (pdi_r1 rfl Γ.b_range (pda_cons (pd_varF 4) pda_nil)) (blkOk_by (by kernel_rfl)) rfl (fun _ _ _ _ _ => (pdg_name 9 sc.nd rfl (by first | exact Or.inl rfl | exact Or.inr rfl))) (by decide) (fun _ _ _ _ _ => pdts_nil) (fun _ _ _ _ _ => (pd_callB (call_max2 rfl) rc_max rfl Γ.b_max rfl (pda_cons (pd_varF 9) (pda_cons (pd_varF 8) pda_nil))))))) pdss_nil) (pdss_cons (pds_if (pdt_cmp (op_eqD hr.units) ro_eq (pd_varF 7) pd_int (nomark _)) (pdss_one (pds_own (i := 6) sc.nd rfl (by first | exact Or.inl rfl | exact Or.inr rfl) (pn_lc (own := [("state", 9)]) (g := (gName 9)) rfl sc.nd (pdi_r1 rfl Γ.b_range (pda_cons (pd_varF 4) pda_nil)) (blkOk_by (by kernel_rfl)) rfl (fun _ _ _ _ _ => (pdg_name 9 sc.nd rfl (by first | exact Or.inl rfl | exact Or.inr rfl))) (by decide) (fun _ _ _ _ _ => pdts_nil) (fun _ _ _ _ _ => (pd_callB (call_max2 rfl) rc_max rfl Γ.b_max rfl (pda_cons (pd_varF 9) (pda_cons (pd_ix (pd_varF 6) (pd_varF 9) (fun _ _ => rfl)) pda_nil))))))) pdss_nil) (pdss_cons (pds_if (pdt_w (pdw_and (pdt_cmp (op_eqD hr.units) ro_eq (pd_varF 7) pd_int (nomark _)) (pdw_and1 (pdt_cmp (op_eqD hr.units) ro_eq (pd_call dm__law_take (ok__law_take Γ) (hr.mono (by decide)) rfl Γ.m__law_take Γ.F__law_take.kp (b__law_take Γ.F__law_take) tk (pda_bor 0 (pda_cons pd_int pda_nil))) pd_int (nomark _))))) (pdss_one (pds_own (i := 6) sc.nd rfl (by first | exact Or.inl rfl | exact Or.inr rfl) (pn_lc (own := [("state", 9)]) (g := (gName 9)) rfl sc.nd (pdi_r1 rfl Γ.b_range (pda_cons (pd_varF 4) pda_nil)) (blkOk_by (by kernel_rfl)) rfl (fun _ _ _ _ _ => (pdg_name 9 sc.nd rfl (by first | exact Or.inl rfl | exact Or.inr rfl))) (by decide) (fun _ _ _ _ _ => pdts_nil) (fun _ _ _ _ _ => (pd_op op_mod ro_int (pd_callTy call_int1 rc_int rfl Γ.b_int rfl (pda_cons (pd_op op_addAll ro_add (pd_varF 9) (pd_varF 8)) pda_nil)) (pd_varF 4)))))) pdss_nil) (pdss_one (pds_app 5 (pd_callTy call_tuple_of rc_tuple rfl Γ.b_tuple rfl (pda_cons (pd_varF 6) pda_nil)))))))))))) (pdss_one (pds_ret (pd_varF 5)))))
  unfold dc__law_tables at h
  exact ⟨_, der.run, body_of2 h der.mono⟩
theorem sc__law_led : FnScope ["tables", "state", "row", "deed"] ["tables", "state", "row"] (defScope s__law_led) := ⟨rfl, rfl, rfl, by decide +kernel, rfl, by decide +kernel, by decide +kernel⟩
theorem ok__law_led (Γ : G P K mg C_Machine C_Link C_Refused C_TooGreat C_NoState) : FnOk P w K mg base (L2.CX P w) 1 Γ.f__law_led Γ.fd__law_led ["tables", "state", "row"] (spD K 3 (dc__law_led C_Machine C_Link C_Refused C_TooGreat C_NoState)) := by
  have sc := sc__law_led
  refine FunD.ok Γ.F__law_led sc (fun _ _ _ _ h => h.1) fun cdv A outer s H vs Q E hr h => ?_
  have tk : Takes (cxOf (L2.CX P w) P w K mg base ["tables", "state", "row", "deed"] "_law_led" (defScope s__law_led) Γ.f__law_led cdv A outer s H E) (fun cls d _ H => E cls d H) := takes_of rfl rfl rfl rfl
  have hp : PassesOwn (model P w) (cxOf (L2.CX P w) P w K mg base ["tables", "state", "row", "deed"] "_law_led" (defScope s__law_led) Γ.f__law_led cdv A outer s H E).A (cxOf (L2.CX P w) P w K mg base ["tables", "state", "row", "deed"] "_law_led" (defScope s__law_led) Γ.f__law_led cdv A outer s H E).env (cxOf (L2.CX P w) P w K mg base ["tables", "state", "row", "deed"] "_law_led" (defScope s__law_led) Γ.f__law_led cdv A outer s H E).xe := passes_of rfl
  have der : PDSs (cxOf (L2.CX P w) P w K mg base ["tables", "state", "row", "deed"] "_law_led" (defScope s__law_led) Γ.f__law_led cdv A outer s H E) (fun cls d _ H => E cls d H) (defBody s__law_led) (ds__law_led C_Machine C_Link C_Refused C_TooGreat C_NoState) :=
    (pdss_cons (pds_for hp rfl (pdi_seq (pd_varF 2)) (pdg_name 3 sc.nd rfl (by first | exact Or.inl rfl | exact Or.inr rfl)) (pdss_one (pds_set (i := 1) sc.nd rfl (by first | exact Or.inl rfl | exact Or.inr rfl) (pd_ix (pd_ix (pd_varF 0) (pd_varF 3) (fun _ _ => rfl)) (pd_varF 1) (fun _ _ => rfl))))) (pdss_one (pds_ret (pd_varF 1))))
  unfold dc__law_led at h
  exact ⟨_, der.run, body_of2 h der.mono⟩
theorem sc__law_rows : FnScope ["many", "length", "found", "turn", "longer", "row", "deed"] ["many", "length"] (defScope s__law_rows) := ⟨rfl, rfl, rfl, by decide +kernel, rfl, by decide +kernel, by decide +kernel⟩
theorem ok__law_rows (Γ : G P K mg C_Machine C_Link C_Refused C_TooGreat C_NoState) : FnOk P w K mg base (L2.CX P w) 1 Γ.f__law_rows Γ.fd__law_rows ["many", "length"] (spD K 2 (dc__law_rows C_Machine C_Link C_Refused C_TooGreat C_NoState)) := by
  have sc := sc__law_rows
  refine FunD.ok Γ.F__law_rows sc (fun _ _ _ _ h => h.1) fun cdv A outer s H vs Q E hr h => ?_
  have tk : Takes (cxOf (L2.CX P w) P w K mg base ["many", "length", "found", "turn", "longer", "row", "deed"] "_law_rows" (defScope s__law_rows) Γ.f__law_rows cdv A outer s H E) (fun cls d _ H => E cls d H) := takes_of rfl rfl rfl rfl
  have hp : PassesOwn (model P w) (cxOf (L2.CX P w) P w K mg base ["many", "length", "found", "turn", "longer", "row", "deed"] "_law_rows" (defScope s__law_rows) Γ.f__law_rows cdv A outer s H E).A (cxOf (L2.CX P w) P w K mg base ["many", "length", "found", "turn", "longer", "row", "deed"] "_law_rows" (defScope s__law_rows) Γ.f__law_rows cdv A outer s H E).env (cxOf (L2.CX P w) P w K mg base ["many", "length", "found", "turn", "longer", "row", "deed"] "_law_rows" (defScope s__law_rows) Γ.f__law_rows cdv A outer s H E).xe := passes_of rfl
  have der : PDSs (cxOf (L2.CX P w) P w K mg base ["many", "length", "found", "turn", "longer", "row", "deed"] "_law_rows" (defScope s__law_rows) Γ.f__law_rows cdv A outer s H E) (fun cls d _ H => E cls d H) (defBody s__law_rows) (ds__law_rows C_Machine C_Link C_Refused C_TooGreat C_NoState) :=
    (pdss_cons (pds_own (i := 2) sc.nd rfl (by first | exact Or.inl rfl | exact Or.inr rfl) (pn_lst (pda_cons (pd_tup pda_nil) pda_nil))) (pdss_cons (pds_for hp rfl (pdi_r1 rfl Γ.b_range (pda_cons (pd_varF 1) pda_nil)) (pdg_name 3 sc.nd rfl (by first | exact Or.inl rfl | exact Or.inr rfl)) (pdss_cons (pds_own (i := 4) sc.nd rfl (by first | exact Or.inl rfl | exact Or.inr rfl) (pn_lst pda_nil)) (pdss_cons (pds_for hp rfl (pdi_seq (pd_varF 2)) (pdg_name 5 sc.nd rfl (by first | exact Or.inl rfl | exact Or.inr rfl)) (pdss_one (pds_set (i := 4) sc.nd rfl (by first | exact Or.inl rfl | exact Or.inr rfl) (pd_op op_addAll ro_add (pd_varF 4) (pd_fz (pn_lc (own := [("deed", 6)]) (g := (gName 6)) rfl sc.nd (pdi_r1 rfl Γ.b_range (pda_cons (pd_varF 0) pda_nil)) (blkOk_by (by kernel_rfl)) rfl (fun _ _ _ _ _ => (pdg_name 6 sc.nd rfl (by first | exact Or.inl rfl | exact Or.inr rfl))) (by decide) (fun _ _ _ _ _ => pdts_nil) (fun _ _ _ _ _ => (pd_op op_addAll ro_add (pd_varF 5) (pd_tup (pda_cons (pd_varF 6) pda_nil)))))))))) (pdss_one (pds_set (i := 2) sc.nd rfl (by first | exact Or.inl rfl | exact Or.inr rfl) (pd_varF 4)))))) (pdss_one (pds_ret (pd_varF 2)))))
  unfold dc__law_rows at h
  exact ⟨_, der.run, body_of2 h der.mono⟩
theorem sc__law_right : FnScope ["tables", "first", "length", "loss", "modulus", "rows", "between", "at", "many", "here", "met", "told", "row", "deed", "state", "deeds", "page", "key", "after", "later"] ["tables", "first", "length", "loss", "modulus"] (defScope s__law_right) := ⟨rfl, rfl, rfl, by decide +kernel, rfl, by decide +kernel, by decide +kernel⟩
theorem ok__law_right (Γ : G P K mg C_Machine C_Link C_Refused C_TooGreat C_NoState) : FnOk P w K mg base (L2.CX P w) 2 Γ.f__law_right Γ.fd__law_right ["tables", "first", "length", "loss", "modulus"] (spD K 5 (dc__law_right C_Machine C_Link C_Refused C_TooGreat C_NoState)) := by
  have sc := sc__law_right
  refine FunD.ok Γ.F__law_right sc (fun _ _ _ _ h => h.1) fun cdv A outer s H vs Q E hr h => ?_
  have tk : Takes (cxOf (L2.CX P w) P w K mg base ["tables", "first", "length", "loss", "modulus", "rows", "between", "at", "many", "here", "met", "told", "row", "deed", "state", "deeds", "page", "key", "after", "later"] "_law_right" (defScope s__law_right) Γ.f__law_right cdv A outer s H E) (fun cls d _ H => E cls d H) := takes_of rfl rfl rfl rfl
  have hp : PassesOwn (model P w) (cxOf (L2.CX P w) P w K mg base ["tables", "first", "length", "loss", "modulus", "rows", "between", "at", "many", "here", "met", "told", "row", "deed", "state", "deeds", "page", "key", "after", "later"] "_law_right" (defScope s__law_right) Γ.f__law_right cdv A outer s H E).A (cxOf (L2.CX P w) P w K mg base ["tables", "first", "length", "loss", "modulus", "rows", "between", "at", "many", "here", "met", "told", "row", "deed", "state", "deeds", "page", "key", "after", "later"] "_law_right" (defScope s__law_right) Γ.f__law_right cdv A outer s H E).env (cxOf (L2.CX P w) P w K mg base ["tables", "first", "length", "loss", "modulus", "rows", "between", "at", "many", "here", "met", "told", "row", "deed", "state", "deeds", "page", "key", "after", "later"] "_law_right" (defScope s__law_right) Γ.f__law_right cdv A outer s H E).xe := passes_of rfl
  have der : PDSs (cxOf (L2.CX P w) P w K mg base ["tables", "first", "length", "loss", "modulus", "rows", "between", "at", "many", "here", "met", "told", "row", "deed", "state", "deeds", "page", "key", "after", "later"] "_law_right" (defScope s__law_right) Γ.f__law_right cdv A outer s H E) (fun cls d _ H => E cls d H) (defBody s__law_right) (ds__law_right C_Machine C_Link C_Refused C_TooGreat C_NoState) :=
    (pdss_cons (pds_par3 (i := 8) (j := 9) (l := 10) rfl sc.nd rfl rfl rfl (by decide) (by decide) (by decide) rfl rfl rfl (pm_d (pd_callB call_len rc_len rfl Γ.b_len rfl (pda_cons (pd_varF 0) pda_nil)) (pm_n (pn_lst (pda_cons (pd_tup (pda_cons (pd_varF 1) (pda_cons (pd_tup pda_nil) pda_nil))) pda_nil)) (pm_n (pn_disp1N hr (pd_tup (pda_cons (pd_varF 1) (pda_cons (pd_tup pda_nil) pda_nil))) pd_bool) pm_nil))) (by rfl)) (pdss_cons (pds_own (i := 5) sc.nd rfl (by first | exact Or.inl rfl | exact Or.inr rfl) (pn_lst pda_nil)) (pdss_cons (pds_for hp rfl (pdi_r1 rfl Γ.b_range (pda_cons (pd_op op_addAll ro_add (pd_varF 3) pd_int) pda_nil)) (pdg_name 6 sc.nd rfl (by first | exact Or.inl rfl | exact Or.inr rfl)) (pdss_one (pds_set (i := 5) sc.nd rfl (by first | exact Or.inl rfl | exact Or.inr rfl) (pd_op op_addAll ro_add (pd_varF 5) (pd_call dm__law_rows (ok__law_rows Γ) (hr.mono (by decide)) rfl Γ.m__law_rows Γ.F__law_rows.kp (b__law_rows Γ.F__law_rows) tk (pda_cons (pd_varF 8) (pda_cons (pd_varF 6) pda_nil))))))) (pdss_cons (pds_for hp rfl (pdi_r1 rfl Γ.b_range (pda_cons pd_int pda_nil)) (pdg_name 7 sc.nd rfl (by first | exact Or.inl rfl | exact Or.inr rfl)) (pdss_cons (pds_if (pdt_cmp (op_eqD hr.units) ro_eq (pd_varF 7) (pd_lenS 9 rfl Γ.b_len) (nomark _)) (pdss_one (pds_ret pd_bool)) pdss_nil) (pdss_cons (pds_asg (pd_ixS 9 (pd_varF 7) (fun _ _ => rfl)) (pdg_tup rfl (pdgs_cons (pdg_name 14 sc.nd rfl (by first | exact Or.inl rfl | exact Or.inr rfl)) (pdgs_cons (pdg_name 15 sc.nd rfl (by first | exact Or.inl rfl | exact Or.inr rfl)) pdgs_nil)))) (pdss_cons (pds_own (i := 11) sc.nd rfl (by first | exact Or.inl rfl | exact Or.inr rfl) pn_dnewN) (pdss_cons (pds_for hp rfl (pdi_seq (pd_varF 5)) (pdg_name 12 sc.nd rfl (by first | exact Or.inl rfl | exact Or.inr rfl)) (pdss_cons (pds_set (i := 16) sc.nd rfl (by first | exact Or.inl rfl | exact Or.inr rfl) (pd_slice (pd_op op_addAll ro_add (pd_varF 15) (pd_varF 12)) (pdo_some (pd_callB (call_max2 rfl) rc_max rfl Γ.b_max rfl (pda_cons pd_int (pda_cons (pd_op op_sub ro_int0 (pd_callB call_len rc_len rfl Γ.b_len rfl (pda_cons (pd_op op_addAll ro_add (pd_varF 15) (pd_varF 12)) pda_nil)) (pd_varF 2)) pda_nil)))) pdo_none)) (pdss_cons (pds_set (i := 17) sc.nd rfl (by first | exact Or.inl rfl | exact Or.inr rfl) (pd_tup (pda_cons (pd_varF 16) (pda_cons (pd_ifExp (pdt_cmp (op_eqD hr.units) ro_eq (pd_callB call_len rc_len rfl Γ.b_len rfl (pda_cons (pd_varF 16) pda_nil)) (pd_varF 2) (nomark _)) (pd_op op_mod ro_int (pd_callTy call_int1 rc_int rfl Γ.b_int rfl (pda_cons (pd_callB call_len rc_len rfl Γ.b_len rfl (pda_cons (pd_varF 12) pda_nil)) pda_nil)) (pd_varF 4)) pd_none) pda_nil)))) (pdss_cons (pds_set (i := 18) sc.nd rfl (by first | exact Or.inl rfl | exact Or.inr rfl) (pd_call dm__law_led (ok__law_led Γ) (hr.mono (by decide)) rfl Γ.m__law_led Γ.F__law_led.kp (b__law_led Γ.F__law_led) tk (pda_cons (pd_varF 0) (pda_cons (pd_varF 14) (pda_cons (pd_varF 12) pda_nil))))) (pdss_one (pds_if (pdt_cmp (op_neD hr.units) ro_ne (pd_setdN 11 hr (pd_varF 17) (pd_varF 18) ⟨rfl, by rfl, rfl, rfl⟩) (pd_varF 18) (nomark _)) (pdss_one (pds_ret pd_bool)) pdss_nil)))))) (pdss_one (pds_for hp rfl (pdi_r1 rfl Γ.b_range (pda_cons (pd_varF 8) pda_nil)) (pdg_name 13 sc.nd rfl (by first | exact Or.inl rfl | exact Or.inr rfl)) (pdss_cons (pds_set (i := 19) sc.nd rfl (by first | exact Or.inl rfl | exact Or.inr rfl) (pd_tup (pda_cons (pd_ix (pd_ix (pd_varF 0) (pd_varF 13) (fun _ _ => rfl)) (pd_varF 14) (fun _ _ => rfl)) (pda_cons (pd_slice (pd_op op_addAll ro_add (pd_varF 15) (pd_tup (pda_cons (pd_varF 13) pda_nil))) (pdo_some (pd_callB (call_max2 rfl) rc_max rfl Γ.b_max rfl (pda_cons pd_int (pda_cons (pd_op op_sub ro_int0 (pd_op op_addAll ro_add (pd_callB call_len rc_len rfl Γ.b_len rfl (pda_cons (pd_varF 15) pda_nil)) pd_int) (pd_varF 2)) pda_nil)))) pdo_none) pda_nil)))) (pdss_one (pds_if (pdt_notinSN 10 hr (pd_varF 19)) (pdss_cons (pds_asg pd_bool (pdg_subN 10 hr (pd_varF 19))) (pdss_one (pds_app 9 (pd_varF 19)))) pdss_nil)))))))))) (pdss_one (pds_ret pd_none))))))
  unfold dc__law_right at h
  exact ⟨_, der.run, body_of2 h der.mono⟩
theorem sc__law_pages : FnScope ["tables", "length", "modulus", "found", "many", "row"] ["tables", "length", "modulus"] (defScope s__law_pages) := ⟨rfl, rfl, rfl, by decide +kernel, rfl, by decide +kernel, by decide +kernel⟩
theorem ok__law_pages (Γ : G P K mg C_Machine C_Link C_Refused C_TooGreat C_NoState) : FnOk P w K mg base (L2.CX P w) 2 Γ.f__law_pages Γ.fd__law_pages ["tables", "length", "modulus"] (spD K 3 (dc__law_pages C_Machine C_Link C_Refused C_TooGreat C_NoState)) := by
  have sc := sc__law_pages
  refine FunD.ok Γ.F__law_pages sc (fun _ _ _ _ h => h.1) fun cdv A outer s H vs Q E hr h => ?_
  have tk : Takes (cxOf (L2.CX P w) P w K mg base ["tables", "length", "modulus", "found", "many", "row"] "_law_pages" (defScope s__law_pages) Γ.f__law_pages cdv A outer s H E) (fun cls d _ H => E cls d H) := takes_of rfl rfl rfl rfl
  have hp : PassesOwn (model P w) (cxOf (L2.CX P w) P w K mg base ["tables", "length", "modulus", "found", "many", "row"] "_law_pages" (defScope s__law_pages) Γ.f__law_pages cdv A outer s H E).A (cxOf (L2.CX P w) P w K mg base ["tables", "length", "modulus", "found", "many", "row"] "_law_pages" (defScope s__law_pages) Γ.f__law_pages cdv A outer s H E).env (cxOf (L2.CX P w) P w K mg base ["tables", "length", "modulus", "found", "many", "row"] "_law_pages" (defScope s__law_pages) Γ.f__law_pages cdv A outer s H E).xe := passes_of rfl
  have der : PDSs (cxOf (L2.CX P w) P w K mg base ["tables", "length", "modulus", "found", "many", "row"] "_law_pages" (defScope s__law_pages) Γ.f__law_pages cdv A outer s H E) (fun cls d _ H => E cls d H) (defBody s__law_pages) (ds__law_pages C_Machine C_Link C_Refused C_TooGreat C_NoState) :=
    (pdss_cons (pds_own (i := 3) sc.nd rfl (by first | exact Or.inl rfl | exact Or.inr rfl) pn_dnewN) (pdss_cons (pds_for hp rfl (pdi_r1 rfl Γ.b_range (pda_cons (pd_op op_addAll ro_add (pd_varF 1) (pd_varF 2)) pda_nil)) (pdg_name 4 sc.nd rfl (by first | exact Or.inl rfl | exact Or.inr rfl)) (pdss_one (pds_for hp rfl (pdi_seq (pd_call dm__law_rows (ok__law_rows Γ) (hr.mono (by decide)) rfl Γ.m__law_rows Γ.F__law_rows.kp (b__law_rows Γ.F__law_rows) tk (pda_cons (pd_callB call_len rc_len rfl Γ.b_len rfl (pda_cons (pd_varF 0) pda_nil)) (pda_cons (pd_varF 4) pda_nil)))) (pdg_name 5 sc.nd rfl (by first | exact Or.inl rfl | exact Or.inr rfl)) (pdss_one (pds_asg pd_bool (pdg_subN 3 hr (pd_tup (pda_cons (pd_slice (pd_varF 5) (pdo_some (pd_callB (call_max2 rfl) rc_max rfl Γ.b_max rfl (pda_cons pd_int (pda_cons (pd_op op_sub ro_int0 (pd_varF 4) (pd_varF 1)) pda_nil)))) pdo_none) (pda_cons (pd_op op_mod ro_int (pd_callTy call_int1 rc_int rfl Γ.b_int rfl (pda_cons (pd_varF 4) pda_nil)) (pd_varF 2)) pda_nil))))))))) (pdss_one (pds_ret (pd_lenSN 3 rfl Γ.b_len)))))
  unfold dc__law_pages at h
  exact ⟨_, der.run, body_of2 h der.mono⟩
theorem sc__law_curve_right : FnScope ["tables", "first", "loss", "curve", "modulus", "looked", "other", "told", "far", "length"] ["tables", "first", "loss", "curve"] (defScope s__law_curve_right) := ⟨rfl, rfl, rfl, by decide +kernel, rfl, by decide +kernel, by decide +kernel⟩
theorem ok__law_curve_right (Γ : G P K mg C_Machine C_Link C_Refused C_TooGreat C_NoState) : FnOkG P w K mg base (L2.CX P w) 3 Γ.f__law_curve_right Γ.fd__law_curve_right ["tables", "first", "loss", "curve"] (spD K 4 (dc__law_curve_right C_Machine C_Link C_Refused C_TooGreat C_NoState)) := by
  have sc := sc__law_curve_right
  refine okG_of Γ.F__law_curve_right sc (fun _ _ _ _ h => h.1) fun cdv A outer s H vs Q E hgd hr h => ?_
  have tk : Takes (cxOf (L2.CX P w) P w K mg base ["tables", "first", "loss", "curve", "modulus", "looked", "other", "told", "far", "length"] "_law_curve_right" (defScope s__law_curve_right) Γ.f__law_curve_right cdv A outer s H E) (fun cls d _ H => E cls d H) := takes_of rfl rfl rfl rfl
  have hp : PassesOwn (model P w) (cxOf (L2.CX P w) P w K mg base ["tables", "first", "loss", "curve", "modulus", "looked", "other", "told", "far", "length"] "_law_curve_right" (defScope s__law_curve_right) Γ.f__law_curve_right cdv A outer s H E).A (cxOf (L2.CX P w) P w K mg base ["tables", "first", "loss", "curve", "modulus", "looked", "other", "told", "far", "length"] "_law_curve_right" (defScope s__law_curve_right) Γ.f__law_curve_right cdv A outer s H E).env (cxOf (L2.CX P w) P w K mg base ["tables", "first", "loss", "curve", "modulus", "looked", "other", "told", "far", "length"] "_law_curve_right" (defScope s__law_curve_right) Γ.f__law_curve_right cdv A outer s H E).xe := passes_of rfl
  have der : PDSs (cxOf (L2.CX P w) P w K mg base ["tables", "first", "loss", "curve", "modulus", "looked", "other", "told", "far", "length"] "_law_curve_right" (defScope s__law_curve_right) Γ.f__law_curve_right cdv A outer s H E) (fun cls d _ H => E cls d H) (defBody s__law_curve_right) (ds__law_curve_right C_Machine C_Link C_Refused C_TooGreat C_NoState) :=
    (pdss_cons (pds_if (pdt_w (pdw_or (pdt_not (pdt_val (pd_isT rfl Γ.b_isinstance rfl Γ.b_tuple rfl (pd_varF 3)))) (pdw_or1 (pdt_cmp (op_neD hr.units) ro_ne (pd_callB call_len rc_len rfl Γ.b_len rfl (pda_cons (pd_varF 3) pda_nil)) (pd_op op_addAll ro_add (pd_varF 2) pd_int) (nomark _))))) (pdss_one (pds_ret pd_bool)) pdss_nil) (pdss_cons (pds_for hp rfl (pdi_r2 rfl Γ.b_range (pda_cons pd_int (pda_cons (pd_op op_addAll ro_add (pd_varF 2) pd_int) pda_nil))) (pdg_name 4 sc.nd rfl (by first | exact Or.inl rfl | exact Or.inr rfl)) (pdss_cons (pds_par2 (i := 7) (j := 8) rfl sc.nd rfl rfl (by decide) rfl rfl (pm_d (pd_ix (pd_varF 3) (pd_op op_sub ro_int0 (pd_varF 4) pd_int) (fun _ _ => rfl)) (pm_d (pd_callB (call_max2 rfl) rc_max rfl Γ.b_max rfl (pda_cons (pd_varF 2) (pda_cons (pd_op op_mulAll ro_mul (pd_op op_sub ro_int0 (pd_callB call_len rc_len rfl Γ.b_len rfl (pda_cons (pd_ix (pd_varF 0) pd_int (fun _ _ => rfl)) pda_nil)) pd_int) (pd_varF 2)) pda_nil))) pm_nil)) (by rfl)) (pdss_cons (pds_ownLc (own := [("length", 9)]) (g := (gName 9)) rfl sc.nd rfl rfl (sw_true rfl rfl rfl (by kernel_rfl)) (pdi_r1 rfl Γ.b_range (pda_cons (pd_op op_addAll ro_add (pd_varF 8) pd_int) pda_nil)) (blkOk_by (by kernel_rfl)) rfl (fun _ _ _ _ _ => (pdg_name 9 sc.nd rfl (by first | exact Or.inl rfl | exact Or.inr rfl))) (by decide) (fun _ _ _ _ _ => (pdts_one (pdt_val (pd_call dm__law_right (ok__law_right Γ) (hr.mono (by decide)) rfl Γ.m__law_right Γ.F__law_right.kp (b__law_right Γ.F__law_right) takes0 (pda_cons (pd_varF 0) (pda_cons (pd_varF 1) (pda_cons (pd_varF 9) (pda_cons (pd_varF 2) (pda_cons (pd_varF 4) pda_nil))))))))) (fun _ _ _ _ _ => (pd_varF 9))) (pdss_cons (pds_if (pdt_w (pdw_or (pdt_cmp (op_neD hr.units) ro_ne (pd_callB (call_reprD hgd hr) rc_repr rfl Γ.b_repr rfl (pda_cons (pd_varF 7) pda_nil)) (pd_callB (call_reprD hgd hr) rc_repr rfl Γ.b_repr rfl (pda_cons (pd_ifExp (pdt_cmp (op_neD hr.units) ro_ne (pd_varF 5) (pd_lst pda_nil) (nomark _)) (pd_ix (pd_varF 5) pd_int (fun _ _ => rfl)) pd_none) pda_nil)) (nomark _)) (pdw_or1 (pdt_w (pdw_and (pdt_cmp (op_neD hr.units) ro_ne (pd_varF 5) (pd_lst pda_nil) (nomark _)) (pdw_and1 (pdt_cmp (op_neD hr.units) ro_ne (pd_varF 5) (pd_lr2 rfl rfl Γ.b_list rfl Γ.b_range (pd_ix (pd_varF 5) pd_int (fun _ _ => rfl)) (pd_op op_addAll ro_add (pd_varF 8) pd_int)) (nomark _)))))))) (pdss_one (pds_ret pd_bool)) pdss_nil) (pdss_one (pds_for hp rfl (pdi_r2 rfl Γ.b_range (pda_cons (pd_varF 4) (pda_cons (pd_op op_addAll ro_add (pd_varF 2) pd_int) pda_nil))) (pdg_name 6 sc.nd rfl (by first | exact Or.inl rfl | exact Or.inr rfl)) (pdss_one (pds_if (pdt_w (pdw_and (pdt_cmp (op_eqD hr.units) ro_eq (pd_op op_mod ro_int (pd_callTy call_int1 rc_int rfl Γ.b_int rfl (pda_cons (pd_varF 6) pda_nil)) (pd_varF 4)) pd_int (nomark _)) (pdw_and (pdt_cmp op_notN ro_notN (pd_varF 7) pd_none (nomark _)) (pdw_and1 (pdt_w (pdw_or (pdt_cmp op_isN ro_isN (pd_ix (pd_varF 3) (pd_op op_sub ro_int0 (pd_varF 6) pd_int) (fun _ _ => rfl)) pd_none (nomark _)) (pdw_or1 (pdt_cmp op_gt ro_boo0 (pd_ix (pd_varF 3) (pd_op op_sub ro_int0 (pd_varF 6) pd_int) (fun _ _ => rfl)) (pd_varF 7) (nomark _))))))))) (pdss_one (pds_ret pd_bool)) pdss_nil)))))))) (pdss_one (pds_ret (pd_and (pd_cmp op_notN ro_notN (pd_ix (pd_varF 3) (pd_varF 2) (fun _ _ => rfl)) pd_none (nomark _)) (pd_one (pd_cmp op_le ro_boo0 (pd_ix (pd_varF 3) (pd_varF 2) (fun _ _ => rfl)) (pd_varF 2) (nomark _))))))))
  unfold dc__law_curve_right at h
  exact ⟨_, der.run, body_of2 h der.mono⟩
theorem sc_Machine___init__ : FnScope ["self", "tables"] ["self", "tables"] (defScope s_Machine___init__) := ⟨rfl, rfl, rfl, by decide +kernel, rfl, by decide +kernel, by decide +kernel⟩
theorem ok_Machine___init__ (Γ : G P K mg C_Machine C_Link C_Refused C_TooGreat C_NoState) : FnOk P w K mg base (L2.CX P w) 6 Γ.f_Machine___init__ Γ.fd_Machine___init__ ["self", "tables"] (spD K 2 (dc_Machine___init__ C_Machine C_Link C_Refused C_TooGreat C_NoState)) := by
  have sc := sc_Machine___init__
  refine FunD.ok Γ.F_Machine___init__ sc (fun _ _ _ _ h => h.1) fun cdv A outer s H vs Q E hr h => ?_
  have tk : Takes (cxOf (L2.CX P w) P w K mg base ["self", "tables"] "Machine.__init__" (defScope s_Machine___init__) Γ.f_Machine___init__ cdv A outer s H E) (fun cls d _ H => E cls d H) := takes_of rfl rfl rfl rfl
  have hp : PassesOwn (model P w) (cxOf (L2.CX P w) P w K mg base ["self", "tables"] "Machine.__init__" (defScope s_Machine___init__) Γ.f_Machine___init__ cdv A outer s H E).A (cxOf (L2.CX P w) P w K mg base ["self", "tables"] "Machine.__init__" (defScope s_Machine___init__) Γ.f_Machine___init__ cdv A outer s H E).env (cxOf (L2.CX P w) P w K mg base ["self", "tables"] "Machine.__init__" (defScope s_Machine___init__) Γ.f_Machine___init__ cdv A outer s H E).xe := passes_of rfl
  have der : PDSs (cxOf (L2.CX P w) P w K mg base ["self", "tables"] "Machine.__init__" (defScope s_Machine___init__) Γ.f_Machine___init__ cdv A outer s H E) (fun cls d _ H => E cls d H) (defBody s_Machine___init__) (ds_Machine___init__ C_Machine C_Link C_Refused C_TooGreat C_NoState) :=
    (pdss_cons (pds_fld 0 Γ.cls_Machine Γ.na_Machine_tables (pd_call dm_check_tables (ok_check_tables Γ) (hr.mono (by decide)) rfl Γ.m_check_tables Γ.F_check_tables.kp (b_check_tables Γ.F_check_tables) tk (pda_cons (pd_varF 1) pda_nil))) (pdss_cons (pds_fld 0 Γ.cls_Machine Γ.na_Machine_deeds (pd_callB call_len rc_len rfl Γ.b_len rfl (pda_cons (pd_fldS 0 Γ.cls_Machine Γ.na_Machine_tables) pda_nil))) (pdss_one (pds_fld 0 Γ.cls_Machine Γ.na_Machine_states (pd_callB call_len rc_len rfl Γ.b_len rfl (pda_cons (pd_ix (pd_fldS 0 Γ.cls_Machine Γ.na_Machine_tables) pd_int (fun _ _ => rfl)) pda_nil))))))
  unfold dc_Machine___init__ at h
  exact ⟨_, der.run, body_of2 h der.mono⟩
theorem sc_law : FnScope ["script", "k", "box", "tables", "curve", "machine", "first", "loss", "length", "modulus", "link", "due", "bad", "odd"] ["script"] (defScope s_law) := ⟨rfl, rfl, rfl, by decide +kernel, rfl, by decide +kernel, by decide +kernel⟩
theorem ok_law (Γ : G P K mg C_Machine C_Link C_Refused C_TooGreat C_NoState) (TB : LamX.TabB base mg Γ.c_law Γ.p_law) (hT : Tbs.T = [(Γ.p_law, ("law" : Str) ++ ".<locals>." ++ "<lambda>")]) : FnOkG P w K mg base (L2.CX P w) 12 Γ.f_law Γ.fd_law ["script"] (spD K 1 (dc_law C_Machine C_Link C_Refused C_TooGreat C_NoState)) := by
  have sc := sc_law
  refine okG_ofC Γ.F_law Γ.k_law sc (fun _ _ _ _ h => h.1) fun A outer s H vs Q E hgd hr h => ?_
  have tk : Takes (cxOf (L2.CX P w) P w K mg base ["script", "k", "box", "tables", "curve", "machine", "first", "loss", "length", "modulus", "link", "due", "bad", "odd"] "law" (defScope s_law) Γ.f_law (.ref Γ.c_law) A outer s H E) (fun cls d _ H => E cls d H) := takes_of rfl rfl rfl rfl
  have hp : PassesOwn (model P w) (cxOf (L2.CX P w) P w K mg base ["script", "k", "box", "tables", "curve", "machine", "first", "loss", "length", "modulus", "link", "due", "bad", "odd"] "law" (defScope s_law) Γ.f_law (.ref Γ.c_law) A outer s H E).A (cxOf (L2.CX P w) P w K mg base ["script", "k", "box", "tables", "curve", "machine", "first", "loss", "length", "modulus", "link", "due", "bad", "odd"] "law" (defScope s_law) Γ.f_law (.ref Γ.c_law) A outer s H E).env (cxOf (L2.CX P w) P w K mg base ["script", "k", "box", "tables", "curve", "machine", "first", "loss", "length", "modulus", "link", "due", "bad", "odd"] "law" (defScope s_law) Γ.f_law (.ref Γ.c_law) A outer s H E).xe := passes_of rfl
  have der : PDSs (cxOf (L2.CX P w) P w K mg base ["script", "k", "box", "tables", "curve", "machine", "first", "loss", "length", "modulus", "link", "due", "bad", "odd"] "law" (defScope s_law) Γ.f_law (.ref Γ.c_law) A outer s H E) (fun cls d _ H => E cls d H) (defBody s_law) (ds_law C_Machine C_Link C_Refused C_TooGreat C_NoState) :=
    (pdss_cons (pds_for hp rfl (pdi_r1 rfl Γ.b_range (pda_cons pd_int pda_nil)) (pdg_name 1 sc.nd rfl (by first | exact Or.inl rfl | exact Or.inr rfl)) (pdss_cons (pds_own (i := 2) sc.nd rfl (by first | exact Or.inl rfl | exact Or.inr rfl) (pn_call dm__law_box (ok__law_box Γ) (hr.mono (by decide)) rfl Γ.m__law_box Γ.F__law_box.kp (b__law_box Γ.F__law_box) tk (pda_cons (pd_varF 0) (pda_cons (pd_varF 1) pda_nil)))) (pdss_cons (pds_set (i := 3) sc.nd rfl (by first | exact Or.inl rfl | exact Or.inr rfl) (pd_call dm__law_tables (ok__law_tables Γ) (hr.mono (by decide)) rfl Γ.m__law_tables Γ.F__law_tables.kp (b__law_tables Γ.F__law_tables) tk (pda_bor 2 (pda_cons pd_int (pda_cons pd_int pda_nil))))) (pdss_cons (pds_parT (n := 3) rfl rfl (by decide) (pns_cons (i := 5) (pns_cons (i := 6) (pns_cons (i := 7) pns_nil sc.nd rfl (by first | exact Or.inl rfl | exact Or.inr rfl)) sc.nd rfl (by first | exact Or.inl rfl | exact Or.inr rfl)) sc.nd rfl (by first | exact Or.inl rfl | exact Or.inr rfl)) (pm_d (pd_fz (pn_make Γ.mk_Machine dm_Machine___init__ (ok_Machine___init__ Γ) (hr.mono (by decide)) rfl Γ.mc_Machine (b_Machine___init__ Γ.F_Machine___init__) (pda_cons (pd_varF 3) pda_nil))) (pm_d (pd_call dm__law_take (ok__law_take Γ) (hr.mono (by decide)) rfl Γ.m__law_take Γ.F__law_take.kp (b__law_take Γ.F__law_take) tk (pda_bor 2 (pda_cons (pd_callB call_len rc_len rfl Γ.b_len rfl (pda_cons (pd_ix (pd_varF 3) pd_int (fun _ _ => rfl)) pda_nil)) pda_nil))) (pm_d (pd_call dm__law_take (ok__law_take Γ) (hr.mono (by decide)) rfl Γ.m__law_take Γ.F__law_take.kp (b__law_take Γ.F__law_take) tk (pda_bor 2 (pda_cons pd_int pda_nil))) pm_nil)))) (pdss_cons (pds_set (i := 4) sc.nd rfl (by first | exact Or.inl rfl | exact Or.inr rfl) (pd_call dm_lengths_by_modulus (ok_lengths_by_modulus Γ) (hr.mono (by decide)) rfl Γ.m_lengths_by_modulus Γ.F_lengths_by_modulus.kp (b_lengths_by_modulus Γ.F_lengths_by_modulus) tk (pda_cons (pd_varF 5) (pda_cons (pd_varF 6) (pda_cons (pd_varF 7) pda_nil))))) (pdss_cons (pds_if (pdt_w (pdw_or (pdt_not (pdt_val (pd_callG dm__law_curve_right (ok__law_curve_right Γ) hgd (hr.mono (by decide)) rfl Γ.m__law_curve_right Γ.F__law_curve_right.kp (b__law_curve_right Γ.F__law_curve_right) tk (pda_cons (pd_varF 3) (pda_cons (pd_varF 6) (pda_cons (pd_varF 7) (pda_cons (pd_varF 4) pda_nil))))))) (pdw_or1 (pdt_cmp (op_neD hr.units) ro_ne (pd_callK0 dm_lengths_by_modulus (ok_lengths_by_modulus Γ) (hr.mono (by decide)) rfl Γ.m_lengths_by_modulus Γ.F_lengths_by_modulus.kp (kb_lengths_by_modulus_loss_first_machine Γ.F_lengths_by_modulus) (fun _ => rfl) rfl (pdk_cons (pd_varF 7) (pdk_cons (pd_varF 6) (pdk_cons (pd_varF 5) pdk_nil)))) (pd_varF 4) (nomark _))))) (pdss_one (pds_ret pd_bool)) pdss_nil) (pdss_cons (pds_par2 (i := 8) (j := 9) rfl sc.nd rfl rfl (by decide) rfl rfl (pm_d (pd_call dm__law_take (ok__law_take Γ) (hr.mono (by decide)) rfl Γ.m__law_take Γ.F__law_take.kp (b__law_take Γ.F__law_take) tk (pda_bor 2 (pda_cons pd_int pda_nil))) (pm_d (pd_op op_addAll ro_add pd_int (pd_call dm__law_take (ok__law_take Γ) (hr.mono (by decide)) rfl Γ.m__law_take Γ.F__law_take.kp (b__law_take Γ.F__law_take) tk (pda_bor 2 (pda_cons pd_int pda_nil)))) pm_nil)) (by rfl)) (pdss_cons (pds_par2 (i := 10) (j := 11) rfl sc.nd rfl rfl (by decide) rfl rfl (pm_d (pd_fz (pn_make Γ.mk_Link dm_Link___init__ (ok_Link___init__ Γ) (hr.mono (by decide)) rfl Γ.mc_Link (b_Link___init__ Γ.F_Link___init__) (pda_cons (pd_varF 5) (pda_cons (pd_varF 6) (pda_cons (pd_varF 8) (pda_cons (pd_varF 7) (pda_cons (pd_varF 9) pda_nil))))))) (pm_d (pd_call dm__law_pages (ok__law_pages Γ) (hr.mono (by decide)) rfl Γ.m__law_pages Γ.F__law_pages.kp (b__law_pages Γ.F__law_pages) tk (pda_cons (pd_varF 3) (pda_cons (pd_varF 8) (pda_cons (pd_varF 9) pda_nil)))) pm_nil)) (by rfl)) (pdss_cons (pds_if (pdt_cmp (op_neD hr.units) ro_ne (pd_callB (call_reprD hgd hr) rc_repr rfl Γ.b_repr rfl (pda_cons (pd_lst (pda_cons (pd_call dm_page_count (ok_page_count Γ) (hr.mono (by decide)) rfl Γ.m_page_count Γ.F_page_count.kp (b_page_count Γ.F_page_count) tk (pda_cons (pd_varF 10) pda_nil)) (pda_cons (pd_callK0 dm_page_count (ok_page_count Γ) (hr.mono (by decide)) rfl Γ.m_page_count Γ.F_page_count.kp (kb_page_count_link Γ.F_page_count) (fun _ => rfl) rfl (pdk_cons (pd_varF 10) pdk_nil)) pda_nil))) pda_nil)) (pd_callB (call_reprD hgd hr) rc_repr rfl Γ.b_repr rfl (pda_cons (pd_lst (pda_cons (pd_varF 11) (pda_cons (pd_varF 11) pda_nil))) pda_nil)) (nomark _)) (pdss_one (pds_ret pd_bool)) pdss_nil) (pdss_cons (pds_parT (n := 2) rfl rfl (by decide) (pns_cons (i := 12) (pns_cons (i := 13) pns_nil sc.nd rfl (by first | exact Or.inl rfl | exact Or.inr rfl)) sc.nd rfl (by first | exact Or.inl rfl | exact Or.inr rfl)) (pm_d (pd_call dm__law_pick (ok__law_pick Γ) (hr.mono (by decide)) rfl Γ.m__law_pick Γ.F__law_pick.kp (b__law_pick Γ.F__law_pick) tk (pda_bor 2 (pda_cons (pd_lst (pda_cons (pd_callB call_len rc_len rfl Γ.b_len rfl (pda_cons (pd_ix (pd_varF 3) pd_int (fun _ _ => rfl)) pda_nil)) (pda_cons (pd_op op_sub ro_int0 pd_int pd_int) (pda_cons pd_none (pda_cons pd_bool (pda_cons pd_str pda_nil)))))) pda_nil))) (pm_d (pd_call dm__law_pick (ok__law_pick Γ) (hr.mono (by decide)) rfl Γ.m__law_pick Γ.F__law_pick.kp (b__law_pick Γ.F__law_pick) tk (pda_bor 2 (pda_cons (pd_lst (pda_cons (pd_op op_sub ro_int0 pd_int pd_int) (pda_cons pd_int (pda_cons pd_none (pda_cons pd_bool (pda_cons pd_str pda_nil)))))) pda_nil))) pm_nil))) (pdss_cons (pds_if (pdt_cmp (op_neD hr.units) ro_ne (pd_heardK (k := 8) (Ng := ["ask", "fault"]) (i := 1) Γ.F__law_heard (b__law_heard Γ.F__law_heard) rfl Γ.m__law_heard sc__law_heard rfl (Or.inl rfl) (fun _ => rfl) Γ.e__law_heard hm__law_heard (fun cdg s H hr2 => (have hu := hr2.units; (clsCons ⟨rfl, by decide, Or.inl Γ.r_NoState.m⟩ rfl rfl (fun a oe c d pn hz hf => (pd_tup (pda_cons pd_str (pda_cons (pd_callB (call_reprU hgd hu) rc_repr rfl Γ.b_repr rfl (pda_cons (pd_xf Γ.r_NoState.xf Γ.r_NoState.no hz hf (pd_varF 1)) pda_nil)) pda_nil)))) (clsCons ⟨rfl, by decide, Or.inl Γ.r_TooGreat.m⟩ rfl rfl (fun a oe c d pn hz hf => (pd_tup (pda_cons pd_str (pda_cons (pd_xf Γ.r_TooGreat.xf Γ.r_TooGreat.no hz hf (pd_varF 1)) pda_nil)))) (clsCons ⟨rfl, by decide, Or.inl Γ.r_Refused.m⟩ rfl rfl (fun a oe c d pn hz hf => (pd_tup (pda_cons pd_str (pda_cons (pd_callB (call_reprU hgd hu) rc_repr rfl Γ.b_repr rfl (pda_cons (pd_xf Γ.r_Refused.xf Γ.r_Refused.no hz hf (pd_varF 1)) pda_nil)) pda_nil)))) clsNil))))) TB rfl (one_tab hT).1 (one_tab hT).2 (hr.mono (by decide)) (LamX.lamS_by (sc := defScope s_law) (by decide +kernel)) rfl (fun _ _ _ _ _ => rfl) (fun A outer s H E f c hr => pdLam fun tk => (pd_call dm_lengths_by_modulus (ok_lengths_by_modulus Γ) (hr.mono (by decide)) rfl Γ.m_lengths_by_modulus Γ.F_lengths_by_modulus.kp (b_lengths_by_modulus Γ.F_lengths_by_modulus) tk (pda_cons (pd_varF 5) (pda_cons (pd_varF 12) (pda_cons (pd_varF 13) pda_nil)))))) (pd_tup (pda_cons pd_str (pda_cons (pd_callB (call_reprD hgd hr) rc_repr rfl Γ.b_repr rfl (pda_cons (pd_varF 12) pda_nil)) pda_nil))) (nomark _)) (pdss_one (pds_ret pd_bool)) pdss_nil) (pdss_one (pds_if (pdt_cmp (op_neD hr.units) ro_ne (pd_heardK (k := 8) (Ng := ["ask", "fault"]) (i := 1) Γ.F__law_heard (b__law_heard Γ.F__law_heard) rfl Γ.m__law_heard sc__law_heard rfl (Or.inl rfl) (fun _ => rfl) Γ.e__law_heard hm__law_heard (fun cdg s H hr2 => (have hu := hr2.units; (clsCons ⟨rfl, by decide, Or.inl Γ.r_NoState.m⟩ rfl rfl (fun a oe c d pn hz hf => (pd_tup (pda_cons pd_str (pda_cons (pd_callB (call_reprU hgd hu) rc_repr rfl Γ.b_repr rfl (pda_cons (pd_xf Γ.r_NoState.xf Γ.r_NoState.no hz hf (pd_varF 1)) pda_nil)) pda_nil)))) (clsCons ⟨rfl, by decide, Or.inl Γ.r_TooGreat.m⟩ rfl rfl (fun a oe c d pn hz hf => (pd_tup (pda_cons pd_str (pda_cons (pd_xf Γ.r_TooGreat.xf Γ.r_TooGreat.no hz hf (pd_varF 1)) pda_nil)))) (clsCons ⟨rfl, by decide, Or.inl Γ.r_Refused.m⟩ rfl rfl (fun a oe c d pn hz hf => (pd_tup (pda_cons pd_str (pda_cons (pd_callB (call_reprU hgd hu) rc_repr rfl Γ.b_repr rfl (pda_cons (pd_xf Γ.r_Refused.xf Γ.r_Refused.no hz hf (pd_varF 1)) pda_nil)) pda_nil)))) clsNil))))) TB rfl (one_tab hT).1 (one_tab hT).2 (hr.mono (by decide)) (LamX.lamS_by (sc := defScope s_law) (by decide +kernel)) rfl (fun _ _ _ _ _ => rfl) (fun A outer s H E f c hr => pdLam fun tk => (pd_call dm_lengths_by_modulus (ok_lengths_by_modulus Γ) (hr.mono (by decide)) rfl Γ.m_lengths_by_modulus Γ.F_lengths_by_modulus.kp (b_lengths_by_modulus Γ.F_lengths_by_modulus) tk (pda_cons (pd_varF 5) (pda_cons (pd_varF 6) (pda_cons (pd_varF 13) pda_nil)))))) (pd_tup (pda_cons pd_str (pda_cons (pd_callB (call_reprD hgd hr) rc_repr rfl Γ.b_repr rfl (pda_cons (pd_varF 13) pda_nil)) pda_nil))) (nomark _)) (pdss_one (pds_ret pd_bool)) pdss_nil))))))))))))) (pdss_one (pds_ret pd_bool)))
  unfold dc_law at h
  exact ⟨_, der.run, body_of2 h der.mono⟩
end
end DL.K28
local macro_rules
  | `(tactic| bv_omega) => `(tactic| (repeat (first | with_reducible (first | refine DL.w_seq ?_ | refine DL.w_next ?_ | refine DL.w_break ?_ | refine DL.w_cont ?_ | refine DL.w_ret ?_ | refine DL.w_retN ?_ | refine DL.w_if ?_ | refine DL.w_asg ?_ | refine DL.w_own ?_ | refine DL.w_drop ?_ | refine DL.w_par ?_ | refine DL.w_for ?_ | refine DL.w_iteT ?_ | refine DL.w_iteNT ?_ | refine DL.w_iteNF ?_ | refine DL.w_iteF ?_ | refine DL.w_gname ?_ | refine DL.w_gcons ?_ | refine DL.w_gnil ?_ | refine DL.w_c ?_ | refine DL.w_op ?_ | refine DL.w_and ?_ | refine DL.w_or ?_ | refine DL.w_not ?_ | refine DL.w_neg ?_ | refine DL.w_ifE ?_ | refine DL.w_chain ?_ | refine DL.w_asB ?_ | refine DL.w_tup ?_ | refine DL.w_lst ?_ | refine DL.w_nlst ?_ | refine DL.w_allN ?_ | refine DL.w_allD ?_ | refine DL.w_anil ?_ | refine DL.w_acons ?_ | refine DL.w_aapp ?_ | refine DL.w_fz ?_ | refine DL.w_nC ?_ | refine DL.w_d1K ?_ | refine DL.w_d1T ?_ | refine DL.w_is ?_ | refine DL.w_mnil ?_ | refine DL.w_md ?_ | refine DL.w_mn ?_ | refine DL.w_inS ?_ | refine DL.w_notinS ?_ | refine DL.w_in ?_ | refine DL.w_notin ?_ | refine DL.w_inSN ?_ | refine DL.w_notinSN ?_ | refine DL.w_inN ?_ | refine DL.w_notinN ?_ | refine DL.w_getN ?_ | refine DL.w_attr ?_ | refine DL.w_slice ?_ | refine DL.w_on ?_ | refine DL.w_os ?_ | refine DL.w_slT ?_ | refine DL.w_slL ?_ | refine DL.w_call ?_ | refine DL.w_ncall ?_ | refine DL.w_callK ?_ | refine DL.w_make ?_ | refine DL.w_fld ?_ | refine DL.w_eB ?_ | refine DL.w_bV ?_ | refine DL.w_bAnd ?_ | refine DL.w_bOr ?_ | refine DL.w_bNot ?_ | refine DL.w_bYes ?_ | refine DL.w_addI ?_ | refine DL.w_dI0 ?_ | refine DL.w_eqI ?_ | refine DL.w_neI ?_ | refine DL.w_isN ?_ | refine DL.w_isB ?_ | refine DL.w_lenL ?_ | refine DL.w_lenT ?_ | refine DL.w_lenR ?_ | refine DL.w_abs ?_ | refine DL.w_int ?_ | refine DL.w_min ?_ | refine DL.w_max ?_ | refine DL.w_tupL ?_ | refine DL.w_tupT ?_ | refine DL.w_lstD ?_ | refine DL.w_iseq ?_ | refine DL.w_sqL ?_ | refine DL.w_sqT ?_ | refine DL.w_ien ?_ | refine DL.w_izp ?_ | refine DL.w_ir1' ?_ | refine DL.w_ir2' ?_ | refine DL.w_itn ?_ | refine DL.w_raise ?_ | refine DL.w_heard ?_ | refine DL.w_lr1 ?_ | refine DL.w_lr2 ?_ | refine DL.w_asI ?_ | refine DL.w_d1N ?_ | refine DL.w_xf ?_ | refine DL.w_ex3 ?_ | refine DL.w_makeX ?_ | refine DL.w_callM ?_ | refine DL.w_xis ?_ | refine DL.w_lstN ?_ | refine DL.w_li ?_) | with_reducible (first | refine DL.w_retS (by with_unfolding_all rfl) ?_ | refine DL.w_owL (by with_unfolding_all rfl) ?_ | refine DL.w_owC (by with_unfolding_all rfl) ?_ | refine DL.w_aug (by with_unfolding_all rfl) ?_ | refine DL.w_var (by with_unfolding_all rfl) ?_ | refine DL.w_varO (by with_unfolding_all rfl) ?_ | refine DL.w_ixS (by with_unfolding_all rfl) ?_ | refine DL.w_ofL (by with_unfolding_all rfl) ?_ | refine DL.w_getS (by with_unfolding_all rfl) ?_ | refine DL.w_gsubN (by with_unfolding_all rfl) ?_ | refine DL.w_getSN (by with_unfolding_all rfl) ?_ | refine DL.w_setdN (by with_unfolding_all rfl) ?_ | refine DL.w_abor (by with_unfolding_all rfl) ?_ | refine DL.w_gsub (by with_unfolding_all rfl) ?_ | refine DL.w_gtup (by with_unfolding_all rfl) ?_ | refine DL.w_and3 (by with_unfolding_all rfl) (by with_unfolding_all rfl) ?_ | refine DL.w_and3K (by with_unfolding_all rfl) (by with_unfolding_all rfl) ?_ | refine DL.w_and4 (by with_unfolding_all rfl) (by with_unfolding_all rfl) (by with_unfolding_all rfl) ?_ | refine DL.w_fldS (by with_unfolding_all rfl) ?_ | refine DL.w_attr2 (by with_unfolding_all rfl) ?_ | refine DL.w_exA (by with_unfolding_all rfl) ?_ | refine DL.w_put (by with_unfolding_all rfl) ?_ | refine DL.w_app (by with_unfolding_all rfl) ?_ | refine DL.w_lenSN (by with_unfolding_all rfl) ?_) | with_reducible refine DL.w_len0 (by dsimp only [List.length_cons, List.length_nil]; omega) ?_ | dsimp only [DL.Rv.toD, DL.Ct.d, DL.putOuts, DL.lend, DL.lentOf, DL.postF, DL.outsF, DL.fill, DL.setItms, Bool.not_true, Bool.not_false, Bool.not_not, List.cons_append, List.nil_append, List.append_nil])))
set_option Elab.async false
set_option linter.all false
set_option maxRecDepth 100000
set_option maxHeartbeats 4000000
namespace DL.K28
open PySem L2 Evl DL
variable [Tbs]
/-! ### the law's draws -/
/-- a box of draws -/
def Box (c : Ct) : Prop := ∃ g s : Nat, c = .lst [.int g, .int s] ∧ s < 4294967296
section
variable {C Lk Rf Tg Ns : Addr} {XX : Exn → List Sl → Prop} {R : Rv → List Sl → Prop}
theorem take_ok {c : Ct} {m : Nat} (hb : Box c) (h1 : 1 ≤ m) (h2 : m ≤ 1000) (h : ∀ (v : Nat) c', v < m → Box c' → R (.d (.int v)) [.ow true c', .un]) : dc__law_take C Lk Rf Tg Ns [.ow true c, .fz (.int m)] XX R := by
  obtain ⟨g, s, rfl, hs⟩ := hb
  refine di__law_take ?_
  unfold ds__law_take
  bv_omega
  by_cases q : (0 : Int) < g
  · refine w_iteT' (decide_eq_true q) ?_
    bv_omega
    refine w_dII (by omega) ?_
    bv_omega
    refine w_dII ⟨by omega, by omega⟩ ?_
    bv_omega
    have e1 : (g : Int) % (m : Int) = ((g % m : Nat) : Int) := by simp
    have e2 : (g : Int) / (m : Int) = ((g / m : Nat) : Int) := by simp
    refine (show R (.d (.int ((g : Int) % (m : Int)))) [.ow true (.lst [.int ((g : Int) / (m : Int)), .int s]), .un] from ?_)
    rw [e1, e2]
    exact h _ _ (Nat.mod_lt _ (by omega)) ⟨_, _, rfl, hs⟩
  · refine w_iteF' (decide_eq_false q) ?_
    bv_omega
    refine w_mulI (.inr ⟨by decide, by decide⟩) ?_
    bv_omega
    refine w_dII (by decide) ?_
    bv_omega
    refine w_mulI (.inr ⟨by decide, by decide⟩) ?_
    bv_omega
    refine w_dII (by decide) ?_
    bv_omega
    refine w_mulI (.inr ⟨by decide, by decide⟩) ?_
    bv_omega
    refine w_dII ⟨by decide, by decide⟩ ?_
    bv_omega
    refine w_dII (by omega) ?_
    bv_omega
    obtain ⟨r, hr⟩ : ∃ r : Nat, ((s : Int) * 40692 + 97) % 2147483399 = r := ⟨((s * 40692 + 97) % 2147483399 : Nat), by omega⟩
    obtain ⟨s', hs', hl⟩ : ∃ s' : Nat, ((r : Int) * 40014 + 11) % 2147483587 + 1 = s' ∧ s' < 4294967296 := ⟨(((r * 40014 + 11) % 2147483587 + 1 : Nat)), by omega, by omega⟩
    obtain ⟨u, hu⟩ : ∃ u : Nat, ((r : Int) * 2147483629 + s') / 8209 = u := ⟨((r * 2147483629 + s') / 8209 : Nat), by omega⟩
    have e1 : (u : Int) % (m : Int) = ((u % m : Nat) : Int) := by simp
    refine (show R (.d (.int ((((((s : Int) * 40692 + 97) % 2147483399) * 2147483629 + (((((s : Int) * 40692 + 97) % 2147483399) * 40014 + 11) % 2147483587 + 1)) / 8209) % (m : Int)))) [.ow true (.lst [.int g, .int (((((s : Int) * 40692 + 97) % 2147483399) * 40014 + 11) % 2147483587 + 1)]), .un] from ?_)
    rw [hr, hs', hu, e1]
    exact h _ _ (Nat.mod_lt _ (by omega)) ⟨_, _, rfl, hl⟩
theorem pick_ok {c : Ct} {xs : List D} (hb : Box c) (h1 : 1 ≤ xs.length) (h2 : xs.length ≤ 1000) (h : ∀ d c', d ∈ xs → Box c' → R (.d d) [.ow true c', .un]) : dc__law_pick C Lk Rf Tg Ns [.ow true c, .fz (.list xs)] XX R := by
  refine di__law_pick ?_
  unfold ds__law_pick
  bv_omega
  refine take_ok hb h1 h2 fun v c' hv hb' => ?_
  bv_omega
  have hx : xs[v]? = some xs[v] := by simp [hv]
  refine w_ixL (d := xs[v]) ?_ ?_
  · unfold atI
    rw [ixN_nat hv]
    simpa using hx
  · exact h _ _ (List.getElem_mem hv) hb'
theorem box_ok {ns : List Int} {k : Nat} (hn : ns.length ≤ 1000) (h : ∀ c, Box c → R (.nw c) [.un, .un]) : dc__law_box C Lk Rf Tg Ns [.fz (.rol (ns.map .int)), .fz (.int k)] XX R := by
  have fin : ∀ (cell g : Int) (k : Nat), 0 ≤ cell → 0 ≤ g → R (.nw (.lst [.int g, .int ((cell % 2147483587 * 69069 + 919 * (k : Int)) % 2147483587 + 1)])) [.un, .un] := fun cell g k h1 h2 => by
    obtain ⟨g', rfl⟩ := Int.eq_ofNat_of_zero_le h2
    obtain ⟨s', hs', hl⟩ : ∃ s' : Nat, (cell % 2147483587 * 69069 + 919 * (k : Int)) % 2147483587 + 1 = s' ∧ s' < 4294967296 := ⟨((cell % 2147483587 * 69069 + 919 * (k : Int)) % 2147483587 + 1).toNat, by omega, by omega⟩
    rw [hs']
    exact h _ ⟨_, _, rfl, hl⟩
  refine di__law_box ?_
  unfold ds__law_box
  bv_omega
  refine w_mulI (.inl ⟨by decide, by decide⟩) ?_
  bv_omega
  by_cases q : (k : Int) < ((ns.map D.int).length : Int)
  · refine w_iteT' (decide_eq_true q) ?_
    bv_omega
    have hk : k < ns.length := by simpa using q
    have ha : atI (ns.map D.int) (k : Int) = some (.int ns[k]) := by
      unfold atI
      rw [ixN_nat (by simpa using hk)]
      simp [hk]
    refine w_ixR ha ?_
    bv_omega
    refine w_dII ⟨by decide, by decide, by decide⟩ ?_
    bv_omega
    by_cases q2 : ((10 : Int) ^ (18 : Int).toNat) ≤ ((ns[k]).natAbs : Int)
    · refine w_iteT' (decide_eq_true q2) ?_
      bv_omega
      refine w_dII (by decide) ?_
      bv_omega
      refine w_mulI (.inr ⟨by decide, by decide⟩) ?_
      bv_omega
      refine w_mulI (.inl ⟨by decide, by decide⟩) ?_
      bv_omega
      refine w_dII (by decide) ?_
      bv_omega
      exact fin ((ns[k]).natAbs : Int) ((ns[k]).natAbs : Int) k (by omega) (by omega)
    · refine w_iteF' (decide_eq_false q2) ?_
      bv_omega
      refine w_dII (by decide) ?_
      bv_omega
      refine w_mulI (.inr ⟨by decide, by decide⟩) ?_
      bv_omega
      refine w_mulI (.inl ⟨by decide, by decide⟩) ?_
      bv_omega
      refine w_dII (by decide) ?_
      bv_omega
      exact fin ((ns[k]).natAbs : Int) 0 k (by omega) (by decide)
  · refine w_iteF' (decide_eq_false q) ?_
    bv_omega
    by_cases q3 : (0 : Int) < ((ns.map D.int).length : Int)
    · refine w_iteT' (decide_eq_true q3) ?_
      bv_omega
      refine w_dII q3 ?_
      bv_omega
      have h0 : 0 < ns.length := by simpa using q3
      have hm : k % ns.length < ns.length := Nat.mod_lt _ h0
      have ha : atI (ns.map D.int) ((k : Int) % ((ns.map D.int).length : Int)) = some (.int ns[k % ns.length]) := by
        have e : (k : Int) % ((ns.map D.int).length : Int) = ((k % ns.length : Nat) : Int) := by simp
        rw [e]
        unfold atI
        rw [ixN_nat (by simpa using hm)]
        simp [hm]
      refine w_ixR ha ?_
      bv_omega
      refine w_dII (by decide) ?_
      bv_omega
      refine w_mulI (.inr ⟨by decide, by decide⟩) ?_
      bv_omega
      refine w_dII ⟨by decide, by decide, by decide⟩ ?_
      bv_omega
      by_cases q2 : ((10 : Int) ^ (18 : Int).toNat) ≤ (6899 * (k : Int) + 919 + ((ns[k % ns.length]).natAbs : Int) % 2147483587 * 52631)
      · refine w_iteT' (decide_eq_true q2) ?_
        bv_omega
        refine w_dII (by decide) ?_
        bv_omega
        refine w_mulI (.inr ⟨by decide, by decide⟩) ?_
        bv_omega
        refine w_mulI (.inl ⟨by decide, by decide⟩) ?_
        bv_omega
        refine w_dII (by decide) ?_
        bv_omega
        exact fin (6899 * (k : Int) + 919 + ((ns[k % ns.length]).natAbs : Int) % 2147483587 * 52631) (6899 * (k : Int) + 919 + ((ns[k % ns.length]).natAbs : Int) % 2147483587 * 52631) k (by omega) (by omega)
      · refine w_iteF' (decide_eq_false q2) ?_
        bv_omega
        refine w_dII (by decide) ?_
        bv_omega
        refine w_mulI (.inr ⟨by decide, by decide⟩) ?_
        bv_omega
        refine w_mulI (.inl ⟨by decide, by decide⟩) ?_
        bv_omega
        refine w_dII (by decide) ?_
        bv_omega
        exact fin (6899 * (k : Int) + 919 + ((ns[k % ns.length]).natAbs : Int) % 2147483587 * 52631) 0 k (by omega) (by decide)

    · refine w_iteF' (decide_eq_false q3) ?_
      bv_omega
      refine w_dII ⟨by decide, by decide, by decide⟩ ?_
      bv_omega
      by_cases q2 : ((10 : Int) ^ (18 : Int).toNat) ≤ (6899 * (k : Int) + 919)
      · refine w_iteT' (decide_eq_true q2) ?_
        bv_omega
        refine w_dII (by decide) ?_
        bv_omega
        refine w_mulI (.inr ⟨by decide, by decide⟩) ?_
        bv_omega
        refine w_mulI (.inl ⟨by decide, by decide⟩) ?_
        bv_omega
        refine w_dII (by decide) ?_
        bv_omega
        exact fin (6899 * (k : Int) + 919) (6899 * (k : Int) + 919) k (by omega) (by omega)
      · refine w_iteF' (decide_eq_false q2) ?_
        bv_omega
        refine w_dII (by decide) ?_
        bv_omega
        refine w_mulI (.inr ⟨by decide, by decide⟩) ?_
        bv_omega
        refine w_mulI (.inl ⟨by decide, by decide⟩) ?_
        bv_omega
        refine w_dII (by decide) ?_
        bv_omega
        exact fin (6899 * (k : Int) + 919) 0 k (by omega) (by decide)

end
end DL.K28
set_option Elab.async false
set_option linter.all false
set_option maxRecDepth 100000
set_option maxHeartbeats 4000000
namespace DL.K28
open PySem L2 Evl DL
variable [Tbs]
section
variable {C Lk Rf Tg Ns : Addr} {XX : Exn → List Sl → Prop} {R : Rv → List Sl → Prop}
/-! ### words -/
theorem isTy_int_int {i : Int} : isTy "int" (.int i) = some true := by show subTy "int" "int" = some true; decide
theorem isTy_bool_int {i : Int} : isTy "bool" (.int i) = some false := by show subTy "int" "bool" = some false; decide
theorem isTy2_tup {xs : List D} : isTy2 "list" "tuple" (.tuple xs) = some true := by show (subTy "tuple" "list").bind (fun b => (subTy "tuple" "tuple").map fun c => b || c) = some true; decide
theorem isTy2_lst {xs : List D} : isTy2 "list" "tuple" (.list xs) = some true := by show (subTy "list" "list").bind (fun b => (subTy "list" "tuple").map fun c => b || c) = some true; decide
theorem is_integer_ok {i : Int} (h : R (.d (.bool true)) [.un]) : dc_is_integer C Lk Rf Tg Ns [.fz (.int i)] XX R := by
  refine di_is_integer ?_
  unfold ds_is_integer
  bv_omega
  refine w_ofS isTy_int_int ?_
  bv_omega
  refine w_ofS isTy_bool_int ?_
  bv_omega
  exact h
theorem is_number_ok {i : Int} (h : R (.d (.bool (decide (0 ≤ i)))) [.un]) : dc_is_number C Lk Rf Tg Ns [.fz (.int i)] XX R := by
  refine di_is_number ?_
  unfold ds_is_number
  bv_omega
  refine is_integer_ok ?_
  bv_omega
  exact h
theorem is_below_ok {i m : Int} (h : R (.d (.bool (decide (0 ≤ i) && decide (i < m)))) [.un, .un]) : dc_is_below C Lk Rf Tg Ns [.fz (.int i), .fz (.int m)] XX R := by
  refine di_is_below ?_
  unfold ds_is_below
  bv_omega
  refine is_number_ok ?_
  bv_omega
  by_cases q : 0 ≤ i
  · refine w_iteT' (decide_eq_true q) ?_
    bv_omega
    rw [decide_eq_true q, Bool.true_and] at h
    exact h
  · refine w_iteF' (decide_eq_false q) ?_
    bv_omega
    rw [decide_eq_false q, Bool.false_and] at h
    exact h
theorem is_within_ok {i a b : Int} (h : R (.d (.bool (decide (a ≤ i) && decide (i ≤ b)))) [.un, .un, .un]) : dc_is_within C Lk Rf Tg Ns [.fz (.int i), .fz (.int a), .fz (.int b)] XX R := by
  refine di_is_within ?_
  unfold ds_is_within
  bv_omega
  refine is_integer_ok ?_
  bv_omega
  by_cases q : a ≤ i
  · refine w_iteT' (decide_eq_true q) ?_
    bv_omega
    rw [decide_eq_true q, Bool.true_and] at h
    exact h
  · refine w_iteF' (decide_eq_false q) ?_
    bv_omega
    rw [decide_eq_false q, Bool.false_and] at h
    exact h
theorem is_sequence_tup {xs : List D} (h : R (.d (.bool true)) [.un]) : dc_is_sequence C Lk Rf Tg Ns [.fz (.tuple xs)] XX R := by
  refine di_is_sequence ?_
  unfold ds_is_sequence
  bv_omega
  refine w_ofS isTy2_tup ?_
  bv_omega
  exact h
end
end DL.K28
namespace DL.K28
open PySem L2 Evl DL
variable [Tbs]
/-! ### tables -/
abbrev nD (n : Nat) : D := .int (n : Int)
abbrev rowD (r : List Nat) : D := .tuple (r.map nD)
abbrev tabD (T : List (List Nat)) : D := .tuple (T.map rowD)
abbrev macD (C : Addr) (T : List (List Nat)) (n : Nat) : D := .ob C lay_Machine [tabD T, nD T.length, nD n]
/-- 1 to 4 tables over n states, 1 to 8 of them -/
structure Tab (T : List (List Nat)) (n : Nat) : Prop where
  n1 : 1 ≤ n
  n8 : n ≤ 8
  t1 : 1 ≤ T.length
  t4 : T.length ≤ 4
  len : ∀ r ∈ T, r.length = n
  lt : ∀ r ∈ T, ∀ x ∈ r, x < n
section
variable {C Lk Rf Tg Ns : Addr} {XX : Exn → List Sl → Prop} {R : Rv → List Sl → Prop}
theorem asBools_rep (k : Nat) (b : Bool) : asBools (List.replicate k (.bool b)) = some (List.replicate k b) := by
  have := asBools_map (List.replicate k b)
  rwa [List.map_replicate] at this
theorem map_const_mem {α : Type} (xs : List α) (g : α → D) : (xs.map g).map (fun _ => D.bool true) = List.replicate xs.length (.bool true) := by
  induction xs with
  | nil => rfl
  | cons x xs ih => simp [ih, List.replicate_succ]
theorem all_rep (k : Nat) : (List.replicate k true).all id = true := by
  rw [List.all_eq_true]; intro x hx; rw [(List.mem_replicate.mp hx).2]; rfl
theorem is_table_ok {r : List Nat} {n : Nat} (hl : r.length = n) (hn : n ≤ 1000) (hx : ∀ x ∈ r, x < n) (h : R (.d (.bool true)) [.un, .un]) : dc_is_table C Lk Rf Tg Ns [.fz (rowD r), .fz (nD n)] XX R := by
  refine di_is_table ?_
  unfold ds_is_table
  bv_omega
  refine is_sequence_tup ?_
  bv_omega
  refine w_iteT' ?_ ?_
  · simp [nD, hl]
  bv_omega
  refine w_nlc ?_
  bv_omega
  refine ⟨by simp [hl]; omega, ?_⟩
  refine lcL_map (fun _ => .bool true) (fun d hd K hK => ?_) ?_
  · obtain ⟨x, hxr, rfl⟩ := List.mem_map.mp hd
    bv_omega
    refine is_below_ok ?_
    have h1 : (0 : Int) ≤ x := by omega
    have h2 : (x : Int) < n := by have := hx x hxr; omega
    rw [decide_eq_true h1, decide_eq_true h2]
    bv_omega
    exact hK _ rfl
  · rw [List.nil_append, map_const_mem]
    bv_omega
    refine w_all (asBools_rep _ _) ?_
    rw [all_rep]
    exact h
theorem atI_map {α : Type} (xs : List α) (g : α → D) {i : Nat} {x : α} (h : xs[i]? = some x) : atI (xs.map g) (i : Int) = some (g x) := by
  have hi : i < xs.length := (List.getElem?_eq_some_iff.mp h).1
  unfold atI
  rw [ixN_nat (by simpa using hi)]
  simp [h]
theorem Tab.at {T : List (List Nat)} {n : Nat} (t : Tab T n) {d s : Nat} (hd : d < T.length) (hs : s < n) : ∃ r x, T[d]? = some r ∧ r[s]? = some x ∧ x < n ∧ r.length = n := by
  have h1 : T[d]? = some T[d] := by simp [hd]
  have m1 : T[d] ∈ T := List.getElem_mem hd
  have l1 := t.len _ m1
  have hs' : s < T[d].length := by omega
  exact ⟨T[d], T[d][s], h1, by simp [hs'], t.lt _ m1 _ (List.getElem_mem hs'), l1⟩
theorem check_tables_ok {T : List (List Nat)} {n : Nat} (t : Tab T n) (h : R (.d (tabD T)) [.un]) : dc_check_tables C Lk Rf Tg Ns [.fz (tabD T)] XX R := by
  obtain ⟨r0, x0, hr0, _, _, hl0⟩ := t.at (d := 0) (s := 0) (by have := t.t1; omega) (by have := t.n1; omega)
  have h1 := t.t1
  have h2 := t.t4
  have h3 := t.n1
  have h4 := t.n8
  refine di_check_tables ?_
  unfold ds_check_tables
  bv_omega
  refine is_sequence_tup ?_
  bv_omega
  have e1 : decide ((1 : Int) ≤ ((T.map rowD).length : Int)) = true := decide_eq_true (by simp; omega)
  have e2 : decide (((T.map rowD).length : Int) ≤ 4) = true := decide_eq_true (by simp; omega)
  have a0 : atI (T.map rowD) ((0 : Nat) : Int) = some (rowD r0) := atI_map T rowD hr0
  refine w_iteT' e1 ?_
  bv_omega
  rw [e2]
  bv_omega
  refine w_ixT a0 ?_
  bv_omega
  refine is_sequence_tup ?_
  bv_omega
  refine w_ixT a0 ?_
  bv_omega
  have nk : ∀ {d : D} {ds : List D} {k : Nat} {rest : List (List Nat)}, d :: ds = enumD k (rest.map rowD) → ∃ r rest', rest = r :: rest' ∧ d = .tuple [nD k, rowD r] ∧ ds = enumD (k + 1) (rest'.map rowD) := fun {d ds k rest} e => by
    cases rest with
    | nil => cases e
    | cons r rest' => cases e; exact ⟨r, rest', rfl, rfl, rfl⟩
  refine forL_go (I := fun ds ρ => ∃ (k : Nat) (rest : List (List Nat)) (s2 s3 : Sl), ds = enumD k (rest.map rowD) ∧ (∀ r ∈ rest, r ∈ T) ∧ ρ = [.fz (tabD T), .fz (nD n), s2, s3]) (fun d ds ρ Kx hK hI => ?_) (fun ρ hI => ?_) ⟨0, T, .un, .un, rfl, fun r h => h, by rw [← hl0, List.length_map]; rfl⟩
  · obtain ⟨k, rest, s2, s3, e, hr, rfl⟩ := hI
    obtain ⟨r, rest', rfl, rfl, rfl⟩ := nk e
    have hrT := hr r (by simp)
    bv_omega
    refine w_iteT' (decide_eq_true (by omega)) ?_
    bv_omega
    rw [decide_eq_true (show (n : Int) ≤ 8 by omega)]
    bv_omega
    refine is_table_ok (t.len r hrT) (by omega) (t.lt r hrT) ?_
    bv_omega
    exact hK _ ⟨k + 1, rest', _, _, rfl, fun x hx => hr x (by simp [hx]), rfl⟩
  · obtain ⟨k, rest, s2, s3, e, hr, rfl⟩ := hI
    bv_omega
    refine w_nlc ?_
    bv_omega
    refine ⟨by simp; omega, ?_⟩
    refine lcL_map (fun d => d) (fun d hd K hK => ?_) ?_
    · obtain ⟨r, hr, rfl⟩ := List.mem_map.mp hd
      bv_omega
      exact hK _ rfl
    · rw [List.nil_append, List.map_id']
      bv_omega
      exact h
theorem fldPut_len {f : PySem.Str} {y : D} : ∀ {lay : List PySem.Str} {xs : List D}, (fldPut f y lay xs).2.length ≤ xs.length + 1
  | [], [] => Nat.le_refl _
  | [], _ :: _ => by simp [fldPut]
  | _ :: _, [] => by simp [fldPut]
  | g :: lay, x :: xs => by
    unfold fldPut
    split
    · simp
    · have := fldPut_len (f := f) (y := y) (lay := lay) (xs := xs)
      simp; omega
theorem init_ok {T : List (List Nat)} {n : Nat} (t : Tab T n) (h : R (.d .none) [.ow true (.ins C lay_Machine [tabD T, nD T.length, nD n]), .un]) : dc_Machine___init__ C Lk Rf Tg Ns [.ow true (.ins C [] []), .fz (tabD T)] XX R := by
  obtain ⟨r0, x0, hr0, _, _, hl0⟩ := t.at (d := 0) (s := 0) (by have := t.t1; omega) (by have := t.n1; omega)
  have a0 : atI (T.map rowD) ((0 : Nat) : Int) = some (rowD r0) := atI_map T rowD hr0
  refine di_Machine___init__ ?_
  unfold ds_Machine___init__
  bv_omega
  refine check_tables_ok t ?_
  bv_omega
  refine ⟨rfl, by decide, ?_⟩
  bv_omega
  refine w_ofS (x := tabD T) rfl ?_
  bv_omega
  refine ⟨rfl, Nat.lt_of_le_of_lt fldPut_len (by decide), ?_⟩
  bv_omega
  refine w_ofS (x := tabD T) rfl ?_
  bv_omega
  refine w_ixT a0 ?_
  bv_omega
  refine ⟨rfl, Nat.lt_of_le_of_lt fldPut_len (Nat.lt_of_le_of_lt (Nat.succ_le_succ fldPut_len) (by decide)), ?_⟩
  bv_omega
  rw [List.length_map, List.length_map, hl0]
  exact h
theorem need_state_ok {T : List (List Nat)} {n s : Nat} (hs : s < n) (h : R (.d (nD s)) [.un, .un]) : dc_need_state C Lk Rf Tg Ns [.fz (macD C T n), .fz (nD s)] XX R := by
  refine di_need_state ?_
  unfold ds_need_state
  bv_omega
  refine is_below_ok ?_
  rw [decide_eq_true (show (0 : Int) ≤ s by omega), decide_eq_true (show (s : Int) < n by omega)]
  bv_omega
  exact h
theorem need_loss_ok {l : Nat} (hs : l ≤ 8) (h : R (.d (nD l)) [.un]) : dc_need_loss C Lk Rf Tg Ns [.fz (nD l)] XX R := by
  refine di_need_loss ?_
  unfold ds_need_loss
  bv_omega
  refine di_is_within_loss ?_
  unfold ds_is_within_loss
  bv_omega
  refine is_within_ok ?_
  rw [decide_eq_true (show (0 : Int) ≤ l by omega), decide_eq_true (show (l : Int) ≤ 8 by omega)]
  bv_omega
  exact h
def stp (T : List (List Nat)) (d s : Nat) : Nat := ((T[d]?.getD [])[s]?).getD 0
def run (T : List (List Nat)) (s : Nat) (row : List Nat) : Nat := row.foldl (fun s d => stp T d s) s
def Row (T : List (List Nat)) (row : List Nat) : Prop := ∀ d ∈ row, d < T.length
theorem stp_at {T : List (List Nat)} {n : Nat} (t : Tab T n) {d s : Nat} (hd : d < T.length) (hs : s < n) : ∃ r, T[d]? = some r ∧ r[s]? = some (stp T d s) ∧ stp T d s < n := by
  obtain ⟨r, x, h1, h2, h3, _⟩ := t.at hd hs
  have : stp T d s = x := by unfold stp; rw [h1]; simp [h2]
  exact ⟨r, h1, by rw [this]; exact h2, by rw [this]; exact h3⟩
theorem run_lt {T : List (List Nat)} {n : Nat} (t : Tab T n) : ∀ {row : List Nat} {s : Nat}, Row T row → s < n → run T s row < n
  | [], _, _, h => h
  | d :: row, s, hr, hs => run_lt t (row := row) (fun x hx => hr x (by simp [hx])) (stp_at t (hr d (by simp)) hs).choose_spec.2.2
end
end DL.K28
set_option Elab.async false
set_option linter.all false
set_option maxRecDepth 100000
set_option maxHeartbeats 4000000
namespace DL.K28
open PySem L2 Evl DL
variable [Tbs]
/-! ### rows, sights, pages -/
theorem rangeD1 (a n : Nat) : rangeD (a : Int) 1 n = (List.range' a n).map nD := by
  unfold rangeD
  rw [List.range_eq_range', List.range'_eq_map_range, List.range'_eq_map_range, List.map_map, List.map_map]
  apply List.map_congr_left
  intro i _
  simp [nD]
theorem run_app {T : List (List Nat)} {s d : Nat} {row : List Nat} : run T s (row ++ [d]) = stp T d (run T s row) := by
  unfold run; rw [List.foldl_append]; rfl
theorem big {a b : Nat} (h : a + b ≤ 1000000) : a + b ≤ sizeLine := Nat.le_trans h (by rw [sizeLine_eq]; decide)
section
variable {T : List (List Nat)} {lot : List Nat}
def blockR (T : List (List Nat)) (row : List Nat) : List (List Nat) := (List.range T.length).map fun d => row ++ [d]
def ext (T : List (List Nat)) : List (List Nat) → List (List Nat)
  | [] => []
  | row :: rows => blockR T row ++ ext T rows
theorem ext_row : ∀ (rs : List (List Nat)), (∀ r ∈ rs, Row T r) → ∀ r ∈ ext T rs, Row T r
  | [], _, r, h => by simp [ext] at h
  | q :: rs, hr, r, h => by
    rcases List.mem_append.mp h with h | h
    · obtain ⟨d, hd, rfl⟩ := List.mem_map.mp h
      intro x hx
      rcases List.mem_append.mp hx with hx | hx
      · exact hr q (by simp) x hx
      · rw [List.mem_singleton.mp hx]; exact List.mem_range.mp hd
    · exact ext_row rs (fun y hy => hr y (by simp [hy])) r h
theorem ext_len : ∀ (rs : List (List Nat)), (ext T rs).length = rs.length * T.length
  | [] => by simp [ext]
  | q :: rs => by
    show (blockR T q ++ ext T rs).length = _
    rw [List.length_append, ext_len rs]
    simp [blockR, Nat.succ_mul]; omega
/-- the rows of a length -/
def rowsN (T : List (List Nat)) : Nat → List (List Nat)
  | 0 => [[]]
  | k + 1 => ext T (rowsN T k)
theorem rowsN_row : ∀ k, ∀ r ∈ rowsN T k, Row T r
  | 0, r, h => by rw [List.mem_singleton.mp h]; intro x hx; simp at hx
  | k + 1, r, h => ext_row _ (rowsN_row k) r h
theorem rowsN_len : ∀ k, (rowsN T k).length = T.length ^ k
  | 0 => rfl
  | k + 1 => by
    show (ext T (rowsN T k)).length = _
    rw [ext_len, rowsN_len k, Nat.pow_succ]
theorem ext_rowlen {m : Nat} : ∀ (rs : List (List Nat)), (∀ r ∈ rs, r.length = m) → ∀ r ∈ ext T rs, r.length = m + 1
  | [], _, r, h => by simp [ext] at h
  | q :: rs, hr, r, h => by
    rcases List.mem_append.mp h with h | h
    · obtain ⟨d, hd, rfl⟩ := List.mem_map.mp h
      simp [hr q (by simp)]
    · exact ext_rowlen rs (fun y hy => hr y (by simp [hy])) r h
theorem rowsN_rowlen : ∀ k, ∀ r ∈ rowsN T k, r.length = k
  | 0, r, h => by rw [List.mem_singleton.mp h]; rfl
  | k + 1, r, h => ext_rowlen _ (rowsN_rowlen k) r h
end
theorem set_same {ρ : Env} {i : Nat} {d : D} (h : gt ρ i = .fz d) : ρ.set i (.fz d) = ρ := by
  apply List.ext_getElem?
  intro j
  by_cases q : i = j
  · subst q
    unfold gt at h
    by_cases hl : i < ρ.length
    · rw [List.getElem?_set_self hl]
      rw [List.getD, List.getElem?_eq_getElem hl] at h
      rw [List.getElem?_eq_getElem hl]
      simpa using h.symm
    · rw [List.getD, List.getElem?_eq_none (by omega)] at h
      cases h
  · rw [List.getElem?_set_ne q]
/-- a slot, its own thing or frozen already -/
def Two (s : Sl) (c : Ct) : Prop := s = .ow false c ∨ s = .fz c.d
theorem w_varB {ρ : Env} {i : Nat} {X : XP} {K : D → Env → Prop} {c : Ct} (h : Two (gt ρ i) c) (k : K c.d (ρ.set i (.fz c.d))) : eVarF i ρ X K := by
  rcases h with h | h
  · exact w_varO h k
  · rw [set_same h] at k
    exact w_var h k
theorem pow_le {t k : Nat} (ht : t ≤ 4) (hk : k ≤ 8) : t ^ k ≤ 65536 := by
  have h1 : t ^ k ≤ 4 ^ k := Nat.pow_le_pow_left ht k
  have h2 : 4 ^ k ≤ 4 ^ 8 := Nat.pow_le_pow_right (by decide) hk
  have : 4 ^ 8 = 65536 := by decide
  omega
theorem ext_app {T : List (List Nat)} : ∀ A B : List (List Nat), ext T (A ++ B) = ext T A ++ ext T B
  | [], B => rfl
  | r :: A, B => by
    show blockR T r ++ ext T (A ++ B) = (blockR T r ++ ext T A) ++ ext T B
    rw [ext_app A B, List.append_assoc]
theorem ext_one {T : List (List Nat)} (r : List Nat) : ext T [r] = blockR T r := by
  show blockR T r ++ [] = _
  rw [List.append_nil]
theorem rows_small {T : List (List Nat)} {n k : Nat} (t : Tab T n) (hk : k ≤ 8) : (rowsN T k).length ≤ 65536 := by
  rw [rowsN_len]; exact pow_le t.t4 hk
theorem oks_all {m : Nat} : ∀ {xs : List D}, (∀ x ∈ xs, D.ok m x = true) → oks m xs = true
  | [], _ => rfl
  | x :: xs, h => by
    show (D.ok m x && oks m xs) = true
    rw [h x (by simp), oks_all fun y hy => h y (by simp [hy])]
    rfl
theorem ok_row (m : Nat) (r : List Nat) : D.ok (m + 1) (rowD r) = true := by
  show oks m (r.map nD) = true
  refine oks_all fun x hx => ?_
  obtain ⟨k, _, rfl⟩ := List.mem_map.mp hx
  exact ok_int _ _
theorem ok_rows (m : Nat) (rs : List (List Nat)) : D.ok (m + 2) (.list (rs.map rowD)) = true := by
  show oks (m + 1) (rs.map rowD) = true
  refine oks_all fun x hx => ?_
  obtain ⟨k, _, rfl⟩ := List.mem_map.mp hx
  exact ok_row _ _
theorem blk_map (T : List (List Nat)) (r : List Nat) : ((List.range' 0 T.length).map nD).map (fun d => D.tuple (r.map nD ++ [d])) = (blockR T r).map rowD := by
  unfold blockR
  rw [List.map_map, List.map_map, List.range_eq_range']
  refine List.map_congr_left fun k _ => ?_
  show D.tuple (r.map nD ++ [nD k]) = D.tuple ((r ++ [k]).map nD)
  rw [List.map_append]; rfl
def lastN (L : Nat) (w : List Nat) : List Nat := w.drop (w.length - L)
theorem lastN_len (L : Nat) (w : List Nat) : (lastN L w).length = min L w.length := by
  unfold lastN; rw [List.length_drop]; omega
theorem lastN_all {L : Nat} {w : List Nat} (h : w.length ≤ L) : lastN L w = w := by
  unfold lastN; rw [show w.length - L = 0 by omega, List.drop_zero]
theorem lastN_app {L : Nat} (z : List Nat) {y : List Nat} (h : L ≤ y.length) : lastN L (z ++ y) = lastN L y := by
  unfold lastN
  rw [List.length_append, List.drop_append, List.drop_eq_nil_of_le (by omega), List.nil_append]
  congr 1; omega
theorem split_last (L : Nat) (w : List Nat) : w = w.take (w.length - L) ++ lastN L w := (List.take_append_drop _ _).symm
theorem lastN_two (L : Nat) (w u : List Nat) : lastN L (lastN L w ++ u) = lastN L (w ++ u) := by
  by_cases q : L ≤ w.length
  · have e : w ++ u = w.take (w.length - L) ++ (lastN L w ++ u) := by rw [← List.append_assoc, ← split_last]
    rw [e]
    exact (lastN_app _ (by rw [List.length_append, lastN_len]; omega)).symm
  · rw [lastN_all (w := w) (by omega)]
theorem lastN_lastN {k L : Nat} (h : k ≤ L) (w : List Nat) : lastN k (lastN L w) = lastN k w := by
  unfold lastN
  rw [List.drop_drop, List.length_drop]
  congr 1; omega
theorem lastN_end {k : Nat} (z : List Nat) {y : List Nat} (h : y.length = k) : lastN k (z ++ y) = y := by
  rw [lastN_app z (by omega), lastN_all (by omega)]
theorem run_two {T : List (List Nat)} : ∀ (u : List Nat) {s : Nat} {v : List Nat}, run T s (u ++ v) = run T (run T s u) v := fun u s v => by
  unfold run; rw [List.foldl_append]
theorem Row.app {T : List (List Nat)} {u v : List Nat} (hu : Row T u) (hv : Row T v) : Row T (u ++ v) := fun x hx => by
  rcases List.mem_append.mp hx with h | h
  · exact hu x h
  · exact hv x h
theorem Row.left {T : List (List Nat)} {u v : List Nat} (h : Row T (u ++ v)) : Row T u := fun x hx => h x (List.mem_append_left _ hx)
theorem Row.right {T : List (List Nat)} {u v : List Nat} (h : Row T (u ++ v)) : Row T v := fun x hx => h x (List.mem_append_right _ hx)
theorem rows_mem {T : List (List Nat)} {r : List Nat} (h : Row T r) : r ∈ rowsN T r.length := by
  have : ∀ k (r : List Nat), r.length = k → Row T r → r ∈ rowsN T k := by
    intro k
    induction k with
    | zero => intro r hl _; rw [List.eq_nil_of_length_eq_zero hl]; exact List.mem_singleton.mpr rfl
    | succ k ih =>
      intro r hl hr
      have hne : r ≠ [] := fun z => by rw [z] at hl; cases hl
      have e := List.dropLast_concat_getLast hne
      have hd : r.dropLast ∈ rowsN T k := ih _ (by rw [List.length_dropLast]; omega) fun x hx => hr x (List.dropLast_subset r hx)
      have hx : r.getLast hne < T.length := hr _ (List.getLast_mem hne)
      show r ∈ ext T (rowsN T k)
      rw [← e]
      obtain ⟨A, B, hab⟩ := List.append_of_mem hd
      rw [hab, ext_app]
      exact List.mem_append_right _ (List.mem_append_left _ (List.mem_map.mpr ⟨_, List.mem_range.mpr hx, rfl⟩))
  exact this _ r rfl h
theorem subset_len {α : Type} [DecidableEq α] : ∀ {A B : List α}, A.Nodup → (∀ x ∈ A, x ∈ B) → A.length ≤ B.length
  | [], B, _, _ => by simp
  | x :: A, B, hA, hB => by
    have hn := List.nodup_cons.mp hA
    have h1 := subset_len (A := A) (B := B.erase x) hn.2 fun y hy => (List.mem_erase_of_ne (fun z => hn.1 (by rw [← z]; exact hy))).mpr (hB y (by simp [hy]))
    have h2 := List.length_erase (a := x) (l := B)
    rw [if_pos (hB x (by simp))] at h2
    have h3 : 0 < B.length := List.length_pos_of_mem (hB x (by simp))
    simp; omega
def Right (T : List (List Nat)) (a L loss m : Nat) : Prop := ∀ w u v, Row T w → Row T u → Row T v → u.length ≤ loss → v.length ≤ loss → lastN L (w ++ u) = lastN L (w ++ v) → (w.length + u.length) % m = (w.length + v.length) % m → run T a (w ++ u) = run T a (w ++ v)
/-! ### sights -/
abbrev Sight := Nat × List Nat × Nat
section
variable {T : List (List Nat)} {n a L loss m : Nat}
def sOf (T : List (List Nat)) (a L m : Nat) (w : List Nat) : Sight := (run T a w, lastN L w, w.length % m)
def sNext (T : List (List Nat)) (L m : Nat) (σ : Sight) (x : Nat) : Sight := (stp T x σ.1, lastN L (σ.2.1 ++ [x]), (σ.2.2 + 1) % m)
theorem sNext_of (w : List Nat) (x : Nat) : sNext T L m (sOf T a L m w) x = sOf T a L m (w ++ [x]) := by
  unfold sNext sOf
  rw [run_app, lastN_two, List.length_append, Nat.mod_add_mod]
  rfl
def IsS (T : List (List Nat)) (a L m : Nat) (σ : Sight) : Prop := ∃ w, Row T w ∧ σ = sOf T a L m w
theorem IsS.next {σ : Sight} (h : IsS T a L m σ) {x : Nat} (hx : x < T.length) : IsS T a L m (sNext T L m σ x) := by
  obtain ⟨w, hw, rfl⟩ := h
  exact ⟨w ++ [x], hw.app (fun y hy => by rw [List.mem_singleton.mp hy]; exact hx), sNext_of w x⟩
theorem IsS.start : IsS T a L m (a, [], 0) := ⟨[], fun x hx => by simp at hx, by unfold sOf lastN; simp [run]⟩
theorem IsS.lt (t : Tab T n) (ha : a < n) {σ : Sight} (h : IsS T a L m σ) : σ.1 < n := by
  obtain ⟨w, hw, rfl⟩ := h
  exact run_lt t hw ha
theorem IsS.row {σ : Sight} (h : IsS T a L m σ) : Row T σ.2.1 ∧ σ.2.1.length ≤ L := by
  obtain ⟨w, hw, rfl⟩ := h
  refine ⟨fun x hx => hw x (List.mem_of_mem_drop hx), ?_⟩
  show (lastN L w).length ≤ L
  rw [lastN_len]; omega
theorem closed_all {S : List Sight} (h0 : (a, [], 0) ∈ S) (hc : ∀ σ ∈ S, ∀ x, x < T.length → sNext T L m σ x ∈ S) : ∀ k w, w.length = k → Row T w → sOf T a L m w ∈ S := by
  intro k
  induction k with
  | zero =>
    intro w hl _
    rw [List.eq_nil_of_length_eq_zero hl]
    have : sOf T a L m [] = (a, [], 0) := by unfold sOf lastN; simp [run]
    rw [this]; exact h0
  | succ k ih =>
    intro w hl hw
    have hne : w ≠ [] := fun z => by rw [z] at hl; cases hl
    have e := List.dropLast_concat_getLast hne
    have hd := ih w.dropLast (by rw [List.length_dropLast]; omega) fun x hx => hw x (List.dropLast_subset w hx)
    have := hc _ hd (w.getLast hne) (hw _ (List.getLast_mem hne))
    rw [sNext_of, e] at this
    exact this
/-! all of them are few -/
def uni (T : List (List Nat)) (n a L m : Nat) : List Sight :=
  ((List.range L).flatMap (rowsN T)).map (fun d => (run T a d, d, d.length % m)) ++ (rowsN T L).flatMap fun d => (List.range n).flatMap fun s => (List.range m).map fun q => (s, d, q)
theorem uni_mem (t : Tab T n) (ha : a < n) (hm : 1 ≤ m) {σ : Sight} (h : IsS T a L m σ) : σ ∈ uni T n a L m := by
  obtain ⟨w, hw, rfl⟩ := h
  unfold uni
  by_cases q : w.length < L
  · refine List.mem_append_left _ (List.mem_map.mpr ⟨w, List.mem_flatMap.mpr ⟨w.length, List.mem_range.mpr q, rows_mem hw⟩, ?_⟩)
    unfold sOf
    rw [lastN_all (by omega)]
  · refine List.mem_append_right _ (List.mem_flatMap.mpr ⟨lastN L w, ?_, List.mem_flatMap.mpr ⟨run T a w, List.mem_range.mpr (run_lt t hw ha), List.mem_map.mpr ⟨w.length % m, List.mem_range.mpr (Nat.mod_lt _ (by omega)), rfl⟩⟩⟩)
    have hr : Row T (lastN L w) := fun x hx => hw x (List.mem_of_mem_drop hx)
    have hl : (lastN L w).length = L := by rw [lastN_len]; omega
    have := rows_mem hr
    rwa [hl] at this
theorem flatMap_len {α β : Type} {f : α → List β} {c : Nat} : ∀ {l : List α}, (∀ x ∈ l, (f x).length = c) → (l.flatMap f).length = l.length * c
  | [], _ => by simp
  | x :: l, h => by
    rw [List.flatMap_cons, List.length_append, h x (by simp), flatMap_len fun y hy => h y (by simp [hy]), List.length_cons, Nat.succ_mul, Nat.add_comm]
def psum (t : Nat) : Nat → Nat
  | 0 => 0
  | k + 1 => psum t k + t ^ k
theorem flat_rows : ∀ L, ((List.range L).flatMap (rowsN T)).length = psum T.length L
  | 0 => rfl
  | L + 1 => by
    rw [List.range_succ, List.flatMap_append, List.length_append, flat_rows L]
    simp [psum, rowsN_len]
theorem uni_len : (uni T n a L m).length = psum T.length L + T.length ^ L * (n * m) := by
  unfold uni
  rw [List.length_append, List.length_map, flat_rows, flatMap_len (c := n * m) fun d _ => ?_, rowsN_len]
  rw [flatMap_len (c := m) fun s _ => by simp]
  simp
/-- few deeds, short pages -/
def Few (T : List (List Nat)) (n L m : Nat) : Prop := n * m ≤ 12 ∧ (T.length = 1 ∧ L ≤ 9 ∨ T.length = 2 ∧ L ≤ 6)
theorem few_uni (f : Few T n L m) : (uni T n a L m).length ≤ 900 := by
  rw [uni_len]
  obtain ⟨h1, ⟨h2, h3⟩ | ⟨h2, h3⟩⟩ := f
  · rw [h2]
    have : ∀ L, L < 10 → psum 1 L ≤ 9 ∧ 1 ^ L ≤ 1 := by decide
    obtain ⟨e1, e2⟩ := this L (by omega)
    have := Nat.mul_le_mul e2 h1
    omega
  · rw [h2]
    have : ∀ L, L < 7 → psum 2 L ≤ 63 ∧ 2 ^ L ≤ 64 := by decide
    obtain ⟨e1, e2⟩ := this L (by omega)
    have := Nat.mul_le_mul e2 h1
    omega
theorem sights_few (t : Tab T n) (ha : a < n) (hm : 1 ≤ m) (f : Few T n L m) {S : List Sight} (nd : S.Nodup) (hS : ∀ σ ∈ S, IsS T a L m σ) : S.length ≤ 900 :=
  Nat.le_trans (subset_len nd fun σ hσ => uni_mem t ha hm (hS σ hσ)) (few_uni f)
/-! pages -/
def pg (L m : Nat) (σ : Sight) (u : List Nat) : List Nat × Nat := (lastN L (σ.2.1 ++ u), (σ.2.2 + u.length) % m)
theorem pg_of (w u : List Nat) : pg L m (sOf T a L m w) u = (lastN L (w ++ u), (w.length + u.length) % m) := by
  unfold pg sOf
  rw [lastN_two, Nat.mod_add_mod]
def rowsUp (T : List (List Nat)) : Nat → List (List Nat)
  | 0 => [[]]
  | k + 1 => rowsUp T k ++ rowsN T (k + 1)
theorem rowsUp_mem {u : List Nat} : ∀ k, u ∈ rowsUp T k ↔ Row T u ∧ u.length ≤ k
  | 0 => by
    constructor
    · intro h; rw [List.mem_singleton.mp h]; exact ⟨fun x hx => by simp at hx, Nat.le_refl _⟩
    · intro ⟨_, h⟩; rw [List.eq_nil_of_length_eq_zero (l := u) (by omega)]; exact List.mem_singleton.mpr rfl
  | k + 1 => by
    show u ∈ rowsUp T k ++ rowsN T (k + 1) ↔ _
    rw [List.mem_append, rowsUp_mem k]
    constructor
    · rintro (⟨h1, h2⟩ | h)
      · exact ⟨h1, by omega⟩
      · exact ⟨rowsN_row _ _ h, by rw [rowsN_rowlen _ _ h]; omega⟩
    · intro ⟨h1, h2⟩
      by_cases q : u.length ≤ k
      · exact .inl ⟨h1, q⟩
      · have := rows_mem h1
        rw [show u.length = k + 1 by omega] at this
        exact .inr this
def CF (T : List (List Nat)) (L loss m : Nat) (σ : Sight) : Prop := ∀ u ∈ rowsUp T loss, ∀ v ∈ rowsUp T loss, pg L m σ u = pg L m σ v → run T σ.1 u = run T σ.1 v
theorem right_cf : Right T a L loss m ↔ ∀ σ, IsS T a L m σ → CF T L loss m σ := by
  constructor
  · rintro h _ ⟨w, hw, rfl⟩ u hu v hv e
    obtain ⟨u1, u2⟩ := (rowsUp_mem loss).mp hu
    obtain ⟨v1, v2⟩ := (rowsUp_mem loss).mp hv
    rw [pg_of, pg_of, Prod.mk.injEq] at e
    have := h w u v hw u1 v1 u2 v2 e.1 e.2
    rw [run_two, run_two] at this
    exact this
  · intro h w u v hw hu hv h1 h2 e1 e2
    rw [run_two, run_two]
    refine h _ ⟨w, hw, rfl⟩ u ((rowsUp_mem loss).mpr ⟨hu, h1⟩) v ((rowsUp_mem loss).mpr ⟨hv, h2⟩) ?_
    rw [pg_of, pg_of, e1, e2]
theorem right_zero : Right T a L 0 m := fun w u v _ _ _ h1 h2 _ _ => by
  rw [List.eq_nil_of_length_eq_zero (l := u) (by omega), List.eq_nil_of_length_eq_zero (l := v) (by omega)]
theorem right_done {S : List Sight} (h0 : (a, [], 0) ∈ S) (hc : ∀ σ ∈ S, CF T L loss m σ ∧ ∀ u ∈ rowsUp T loss, u.length = 1 → sNext T L m σ (u.headD 0) ∈ S) : Right T a L loss m := by
  by_cases hl : loss = 0
  · subst hl; exact right_zero
  · refine right_cf.mpr fun σ ⟨w, hw, e⟩ => ?_
    have hcl : ∀ σ ∈ S, ∀ x, x < T.length → sNext T L m σ x ∈ S := fun σ hσ x hx => (hc σ hσ).2 [x] ((rowsUp_mem loss).mpr ⟨fun y hy => by rw [List.mem_singleton.mp hy]; exact hx, by simp; omega⟩) rfl
    subst e
    exact (hc _ (closed_all h0 hcl _ w rfl hw)).1
end
/-! ### keys -/
def nkR (r : List Nat) : NestedKey := .tup (r.map fun x : Nat => NestedKey.num (x : Int))
def sKey (σ : Sight) : NestedKey := .tup [.num (σ.1 : Int), nkR σ.2.1, .num (σ.2.2 : Int)]
def pKey (p : List Nat × Nat) : NestedKey := .tup [nkR p.1, .num (p.2 : Int)]
abbrev sD (σ : Sight) : D := .tuple [nD σ.1, rowD σ.2.1, nD σ.2.2]
abbrev pD (p : List Nat × Nat) : D := .tuple [rowD p.1, nD p.2]
theorem nks_row : ∀ r : List Nat, nksOf (r.map nD) = some (r.map fun x : Nat => NestedKey.num (x : Int))
  | [] => rfl
  | x :: r => by
    show (D.nk (nD x)).bind _ = _
    rw [nks_row r]; rfl
theorem dep_row : ∀ r : List Nat, NestedKey.depthAll (r.map fun x : Nat => NestedKey.num (x : Int)) = 0
  | [] => rfl
  | x :: r => by
    rw [List.map_cons, NestedKey.depthAll, dep_row r, NestedKey.depth]; rfl
theorem nk_row (r : List Nat) : D.nk (rowD r) = some (nkR r) := by
  show (nksOf (r.map nD)).map NestedKey.tup = _
  rw [nks_row]; rfl
theorem dep_nkR (r : List Nat) : (nkR r).depth = 1 := by
  unfold nkR; rw [NestedKey.depth, dep_row]
theorem sKey_of (σ : Sight) : D.nkT (sD σ) = some (sKey σ) := by
  have h : nksOf [nD σ.1, rowD σ.2.1, nD σ.2.2] = some [.num (σ.1 : Int), nkR σ.2.1, .num (σ.2.2 : Int)] := by
    show (D.nk (nD σ.1)).bind (fun k => ((D.nk (rowD σ.2.1)).bind fun k => ((D.nk (nD σ.2.2)).bind fun k => (some ([] : List NestedKey)).map (k :: ·)).map (k :: ·)).map (k :: ·)) = _
    rw [nk_row]; rfl
  show (nksOf [nD σ.1, rowD σ.2.1, nD σ.2.2]).bind _ = _
  rw [h]
  show (if (sKey σ).depth ≤ 8 then some (sKey σ) else none) = _
  rw [if_pos]
  unfold sKey
  simp [NestedKey.depth, NestedKey.depthAll, dep_nkR]
theorem pKey_of (p : List Nat × Nat) : D.nkT (pD p) = some (pKey p) := by
  have h : nksOf [rowD p.1, nD p.2] = some [nkR p.1, .num (p.2 : Int)] := by
    show (D.nk (rowD p.1)).bind (fun k => ((D.nk (nD p.2)).bind fun k => (some ([] : List NestedKey)).map (k :: ·)).map (k :: ·)) = _
    rw [nk_row]; rfl
  show (nksOf [rowD p.1, nD p.2]).bind _ = _
  rw [h]
  show (if (pKey p).depth ≤ 8 then some (pKey p) else none) = _
  rw [if_pos]
  unfold pKey
  simp [NestedKey.depth, NestedKey.depthAll, dep_nkR]
theorem nums_inj : ∀ {r q : List Nat}, (r.map fun x : Nat => NestedKey.num (x : Int)) = (q.map fun x : Nat => NestedKey.num (x : Int)) → r = q
  | [], [], _ => rfl
  | [], _ :: _, h => by simp at h
  | _ :: _, [], h => by simp at h
  | x :: r, y :: q, h => by
    rw [List.map_cons, List.map_cons] at h
    injection h with h1 h2
    injection h1 with h1
    rw [nums_inj h2, show x = y by omega]
theorem nkR_inj {r q : List Nat} (h : nkR r = nkR q) : r = q := by
  unfold nkR at h
  injection h with h
  exact nums_inj h
theorem sKey_inj {σ τ : Sight} (h : sKey σ = sKey τ) : σ = τ := by
  obtain ⟨s, r, q⟩ := σ
  obtain ⟨s', r', q'⟩ := τ
  unfold sKey at h
  injection h with h
  injection h with h1 h
  injection h with h2 h
  injection h with h3 _
  injection h1 with h1
  injection h3 with h3
  have h1 : (s : Int) = s' := h1
  have h3 : (q : Int) = q' := h3
  have e2 : r = r' := nkR_inj h2
  rw [show s = s' by omega, e2, show q = q' by omega]
theorem pKey_inj {σ τ : List Nat × Nat} (h : pKey σ = pKey τ) : σ = τ := by
  obtain ⟨r, q⟩ := σ
  obtain ⟨r', q'⟩ := τ
  unfold pKey at h
  injection h with h
  injection h with h2 h
  injection h with h3 _
  injection h3 with h3
  have h3 : (q : Int) = q' := h3
  have e2 : r = r' := nkR_inj h2
  rw [e2, show q = q' by omega]
/-! ### tables -/
theorem dVal_new {κ : Type} [DecidableEq κ] {kvs : List (κ × D)} {k : κ} {v : D} (h : dVal kvs k = none) : dPut kvs k v = kvs ++ [(k, v)] := by
  unfold dPut
  rw [dVal_any, h]; rfl
theorem dVal_app {κ : Type} [DecidableEq κ] {k j : κ} {v : D} : ∀ {kvs : List (κ × D)}, dVal kvs k = none → dVal (kvs ++ [(k, v)]) j = if j = k then some v else dVal kvs j
  | [], _ => by
    by_cases e : k = j
    · simp [dVal, List.find?_cons, e]
    · have e' : ¬ j = k := fun z => e z.symm
      simp [dVal, List.find?_cons, e, e']
  | p :: r, h => by
    have hk : ¬ p.1 = k := fun z => by simp [dVal, List.find?_cons, z] at h
    have h2 : dVal r k = none := by simpa [dVal, List.find?_cons, hk] using h
    have ih := dVal_app (j := j) (v := v) h2
    by_cases e : p.1 = j
    · have e' : ¬ j = k := fun z => hk (e.trans z)
      simp [dVal, List.find?_cons, e, e']
    · have e1 : dVal (p :: r ++ [(k, v)]) j = dVal (r ++ [(k, v)]) j := by simp [dVal, List.find?_cons, e]
      have e2 : dVal (p :: r) j = dVal r j := by simp [dVal, List.find?_cons, e]
      rw [e1, e2, ih]
def thD (S : List Sight) : List (NestedKey × D) := S.map fun σ => (sKey σ, D.bool true)
theorem thD_none {σ : Sight} : ∀ {S : List Sight}, σ ∉ S → dVal (thD S) (sKey σ) = none
  | [], _ => rfl
  | τ :: S, h => by
    have h1 : ¬ sKey τ = sKey σ := fun z => h (by rw [sKey_inj z]; simp)
    have h2 := thD_none (σ := σ) (S := S) fun z => h (by simp [z])
    have : dVal (thD (τ :: S)) (sKey σ) = dVal (thD S) (sKey σ) := by simp [dVal, thD, List.find?_cons, h1]
    rw [this, h2]
theorem thD_some {σ : Sight} : ∀ {S : List Sight}, σ ∈ S → (dVal (thD S) (sKey σ)).isSome = true
  | τ :: S, h => by
    by_cases z : sKey τ = sKey σ
    · simp [dVal, thD, List.find?_cons, z]
    · have : dVal (thD (τ :: S)) (sKey σ) = dVal (thD S) (sKey σ) := by simp [dVal, thD, List.find?_cons, z]
      rw [this]
      rcases List.mem_cons.mp h with rfl | h
      · exact absurd rfl z
      · exact thD_some h
theorem cut_lo {xs : List D} {k : Int} {j : Nat} (hk : k = j) (hj : j ≤ xs.length) : cutD xs (some k) none = xs.drop j := by
  subst hk
  unfold cutD
  rw [HT.sIx_nat, HT.sIx_none, Nat.min_eq_left hj, List.take_of_length_le (by rw [List.length_drop]; omega)]
theorem cut_hi {xs : List D} {k : Int} {j : Nat} (hk : k = j) (hj : j ≤ xs.length) : cutD xs none (some k) = xs.take j := by
  subst hk
  unfold cutD
  rw [HT.sIx_nat, HT.sIx_none, Nat.min_eq_left hj, List.drop_zero, Nat.sub_zero]
theorem cut_last {w : List Nat} {L : Nat} {k : Int} (hk : k = max 0 ((w.length : Int) - (L : Int))) : cutD (w.map nD) (some k) none = (lastN L w).map nD := by
  rw [cut_lo (j := w.length - L) (by rw [hk]; omega) (by rw [List.length_map]; omega)]
  unfold lastN
  rw [List.map_drop]
end DL.K28
set_option Elab.async false
set_option linter.all false
set_option maxRecDepth 100000
set_option maxHeartbeats 4000000
namespace DL.K28
open PySem L2 Evl DL
variable [Tbs]
section
variable {C Lk Rf Tg Ns : Addr} {XX : Exn → List Sl → Prop} {R : Rv → List Sl → Prop}
/-! ### the law's tables -/
abbrev tabL (T : List (List Nat)) : D := .list (T.map rowD)
abbrev tE (c : Ct) (most kinds n style by_ : Nat) (T : List (List Nat)) (s3 s6 s9 : Sl) : Env := [.ow true c, .fz (nD most), .fz (nD kinds), s3, .fz (nD n), .ow false (.lst (T.map rowD)), s6, .fz (nD style), .fz (nD by_), s9]
/-- a slot that holds a row over n states -/
def Row6 (n : Nat) (s : Sl) : Prop := ∃ xs : List Nat, xs.length = n ∧ (∀ x ∈ xs, x < n) ∧ Two s (.lst (xs.map nD))
theorem rep_one (k x : Nat) : (List.replicate k [nD x]).flatten = (List.replicate k x).map nD := by
  induction k with
  | zero => rfl
  | succ k ih => rw [List.replicate_succ, List.replicate_succ, List.flatten_cons, ih]; rfl
theorem row_lc {c : Ct} {most kinds n style by_ : Nat} {T : List (List Nat)} {s3 s6 s9 : Sl} {P6 : Sl → Prop} {de : DE} {X : XP} {KN : Ct → Env → Prop} (hb : Box c) (hn : n ≤ 1000) (h6 : P6 s6)
    (hde : ∀ (c' : Ct) (i : Nat) (s6 : Sl) (K : D → Env → Prop), Box c' → i < n → P6 s6 → (∀ (x : Nat) c'' s6' s9', x < n → Box c'' → P6 s6' → K (nD x) (tE c'' most kinds n style by_ T s3 s6' s9')) → de (tE c' most kinds n style by_ T s3 s6 (.fz (nD i))) X0 K)
    (h : ∀ (xs : List Nat) c' s6' s9', xs.length = n → (∀ x ∈ xs, x < n) → Box c' → KN (.lst (xs.map nD)) (tE c' most kinds n style by_ T s3 s6' s9')) :
    nLC (iR1 (aCons (eVarF 4) aNil)) (dgName 9) bYes de [9] (tE c most kinds n style by_ T s3 s6 s9) X KN := by
  refine w_nlc ?_
  bv_omega
  refine ⟨⟨by omega, by omega⟩, ?_⟩
  refine ⟨by simp [rangeD]; omega, ?_⟩
  refine lcL_go (I := fun ds acc ρ => ∃ (k : Nat) (xs : List Nat) (c' : Ct) (s6' : Sl), ds = (List.range' k (n - k)).map nD ∧ k ≤ n ∧ acc = xs.map nD ∧ xs.length = k ∧ (∀ x ∈ xs, x < n) ∧ Box c' ∧ P6 s6' ∧ ρ = tE c' most kinds n style by_ T s3 s6' .un) (fun d ds acc ρ Kx hK hI => ?_) (fun acc ρ hI => ?_) ?_
  · obtain ⟨k, xs, c', s6', e, hk, rfl, hl, hx, hb', hp, rfl⟩ := hI
    have hlt : k < n := by
      by_cases q : k < n
      · exact q
      · rw [show n - k = 0 by omega] at e; cases e
    rw [show n - k = (n - (k + 1)) + 1 by omega, List.range'_succ, List.map_cons] at e
    cases e
    bv_omega
    refine hde c' k _ _ hb' hlt hp fun x c'' s6'' s9' hxn hb'' hp' => ?_
    refine hK _ _ ⟨k + 1, xs ++ [x], c'', s6'', rfl, hlt, by simp, by simp [hl], fun y hy => ?_, hb'', hp', rfl⟩
    rcases List.mem_append.mp hy with hy | hy
    · exact hx y hy
    · rw [List.mem_singleton.mp hy]; exact hxn
  · obtain ⟨k, xs, c', s6', e, hk, rfl, hl, hx, hb', hp, rfl⟩ := hI
    have hkn : k = n := by
      by_cases q : k < n
      · rw [show n - k = (n - (k + 1)) + 1 by omega, List.range'_succ] at e; cases e
      · omega
    exact h xs c' _ _ (by omega) hx hb'
  · refine ⟨0, [], c, s6, ?_, Nat.zero_le _, rfl, rfl, fun x hx => by simp at hx, hb, h6, rfl⟩
    simp [rangeD, List.range_eq_range']
theorem tables_ok {c : Ct} {most kinds : Nat} (hb : Box c) (h1 : 1 ≤ most) (h8 : most ≤ 8) (k1 : 1 ≤ kinds) (k4 : kinds ≤ 4) (h : ∀ T n c', Tab T n → n ≤ most → T.length ≤ kinds → Box c' → R (.d (tabL T)) [.ow true c', .un, .un]) : dc__law_tables C Lk Rf Tg Ns [.ow true c, .fz (nD most), .fz (nD kinds)] XX R := by
  refine di__law_tables ?_
  unfold ds__law_tables
  bv_omega
  refine take_ok hb h1 (by omega) fun n0 c1 hn0 hb1 => ?_
  bv_omega
  refine ⟨rfl, ?_⟩
  bv_omega
  refine take_ok hb1 k1 (by omega) fun j c2 hj hb2 => ?_
  bv_omega
  refine ⟨⟨by omega, by omega⟩, ?_⟩
  have hlen : (1 + (j : Int)).toNat = j + 1 := by omega
  rw [hlen, show ((1 : Int) + (n0 : Int)) = ((n0 + 1 : Nat) : Int) by omega]
  refine forL_go (I := fun ds ρ => ∃ (c' : Ct) (T : List (List Nat)) (s3 s6 s7 s8 s9 : Sl), Box c' ∧ T.length + ds.length = j + 1 ∧ (∀ r ∈ T, r.length = n0 + 1) ∧ (∀ r ∈ T, ∀ x ∈ r, x < n0 + 1) ∧ ρ = [.ow true c', .fz (nD most), .fz (nD kinds), s3, .fz (nD (n0 + 1)), .ow false (.lst (T.map rowD)), s6, s7, s8, s9]) (fun d ds ρ Kx hK hI => ?_) (fun ρ hI => ?_) ?_
  · obtain ⟨c', T, s3, s6, s7, s8, s9, hb', hl, hr1, hr2, rfl⟩ := hI
    bv_omega
    refine take_ok hb' (m := 6) (by decide) (by decide) fun style c4 ho hb4 => ?_
    bv_omega
    refine take_ok (m := n0 + 1) hb4 (by omega) (by omega) fun by_ c5 hoo hb5 => ?_
    bv_omega
    refine ⟨rfl, ?_⟩
    bv_omega
    have hTl : T.length ≤ 1000 := by simp at hl; omega
    have e5 : (T.map rowD).length ≤ 1000000 := by simp; omega
    have hfin : ∀ (xs : List Nat) (c' : Ct) (s6 s9 : Sl), xs.length = n0 + 1 → (∀ x ∈ xs, x < n0 + 1) → Box c' → Kx [.ow true c', .fz (nD most), .fz (nD kinds), .fz d, .fz (nD (n0 + 1)), .ow false (.lst ((T ++ [xs]).map rowD)), s6, .fz (nD style), .fz (nD by_), s9] := fun xs c' s6 s9 hxl hxs hb' => hK _ ⟨c', T ++ [xs], _, _, _, _, _, hb', by simp at hl ⊢; omega, fun r hr => by
      rcases List.mem_append.mp hr with hr | hr
      · exact hr1 r hr
      · rw [List.mem_singleton.mp hr]; exact hxl, fun r hr => by
      rcases List.mem_append.mp hr with hr | hr
      · exact hr2 r hr
      · rw [List.mem_singleton.mp hr]; exact hxs, rfl⟩
    refine row_lc (c := c5) (s3 := .fz d) (P6 := fun _ => True) hb5 (by omega) trivial (fun c' i s6' K hb' hi hp hk => ?_) (fun xs c' s6' s9' hxl hxs hb' => ?_)
    · bv_omega
      exact take_ok hb' (by omega) (by omega) fun v c6 hv hb6 => by
        bv_omega
        exact hk _ _ _ _ hv hb6 trivial
    bv_omega
    rcases (show style = 0 ∨ style = 1 ∨ style = 2 ∨ style = 3 ∨ style = 4 ∨ style = 5 by omega) with rfl | rfl | rfl | rfl | rfl | rfl
    · refine w_iteT' (decide_eq_true (by decide)) ?_
      bv_omega
      refine row_lc (s3 := .fz d) (P6 := fun _ => True) hb' (by omega) trivial (fun c' i s6' K hb' hi hp hk => ?_) (fun ys c'' s6'' s9'' hyl hys hb'' => ?_)
      · bv_omega
        obtain ⟨x, hx, hxn⟩ : ∃ x : Nat, min (((n0 + 1 : Nat) : Int) - 1) ((i : Int) + 1) = (x : Int) ∧ x < n0 + 1 := ⟨min n0 (i + 1), by omega, by omega⟩
        refine (show K (.int (min (((n0 + 1 : Nat) : Int) - 1) ((i : Int) + 1))) _ from ?_)
        rw [hx]
        exact hk _ _ _ _ hxn hb' trivial
      · bv_omega
        refine w_iteF' (decide_eq_false (by decide)) ?_
        bv_omega
        refine w_iteF' (decide_eq_false (by decide)) ?_
        bv_omega
        refine w_iteF' (decide_eq_false (by decide)) ?_
        bv_omega
        refine w_iteF' (decide_eq_false (by decide)) ?_
        bv_omega
        refine ⟨e5, ?_⟩
        have q9 := hfin ys c'' (.fz (.list (ys.map nD))) s9'' hyl hys hb''
        rw [List.map_append] at q9
        exact q9
    · refine w_iteF' (decide_eq_false (by decide)) ?_
      bv_omega
      refine w_iteT' (decide_eq_true (by decide)) ?_
      bv_omega
      refine ⟨⟨by omega, by omega, by simp; omega⟩, ?_⟩
      bv_omega
      have e7 : (List.replicate ((n0 + 1 : Nat) : Int).toNat [nD by_]).flatten = (List.replicate (n0 + 1) by_).map nD := by rw [Int.toNat_natCast]; exact rep_one _ _
      rw [e7]
      refine w_iteF' (decide_eq_false (by decide)) ?_
      bv_omega
      refine w_iteF' (decide_eq_false (by decide)) ?_
      bv_omega
      refine w_iteF' (decide_eq_false (by decide)) ?_
      bv_omega
      refine ⟨e5, ?_⟩
      have q9 := hfin (List.replicate (n0 + 1) by_) c' (.fz (.list ((List.replicate (n0 + 1) by_).map nD))) s9' List.length_replicate (fun x hx => by rw [(List.mem_replicate.mp hx).2]; exact hoo) hb'
      rw [List.map_append] at q9
      exact q9
    · refine w_iteF' (decide_eq_false (by decide)) ?_
      bv_omega
      refine w_iteF' (decide_eq_false (by decide)) ?_
      bv_omega
      refine w_iteT' (decide_eq_true (by decide)) ?_
      bv_omega
      refine row_lc (s3 := .fz d) (P6 := fun _ => True) hb' (by omega) trivial (fun c' i s6' K hb' hi hp hk => ?_) (fun ys c'' s6'' s9'' hyl hys hb'' => ?_)
      · bv_omega
        obtain ⟨x, hx, hxn⟩ : ∃ x : Nat, max (i : Int) (by_ : Int) = (x : Int) ∧ x < n0 + 1 := ⟨max i by_, by omega, by omega⟩
        refine (show K (.int (max (i : Int) (by_ : Int))) _ from ?_)
        rw [hx]
        exact hk _ _ _ _ hxn hb' trivial
      · bv_omega
        refine w_iteF' (decide_eq_false (by decide)) ?_
        bv_omega
        refine w_iteF' (decide_eq_false (by decide)) ?_
        bv_omega
        refine ⟨e5, ?_⟩
        have q9 := hfin ys c'' (.fz (.list (ys.map nD))) s9'' hyl hys hb''
        rw [List.map_append] at q9
        exact q9
    · refine w_iteF' (decide_eq_false (by decide)) ?_
      bv_omega
      refine w_iteF' (decide_eq_false (by decide)) ?_
      bv_omega
      refine w_iteF' (decide_eq_false (by decide)) ?_
      bv_omega
      refine w_iteT' (decide_eq_true (by decide)) ?_
      bv_omega
      refine row_lc (s3 := .fz d) (P6 := fun s => Two s (.lst (xs.map nD))) hb' (by omega) (.inl rfl) (fun c' i s6' K hb' hi hp hk => ?_) (fun ys c'' s6'' s9'' hyl hys hb'' => ?_)
      · bv_omega
        refine w_varB (i := 6) hp ?_
        bv_omega
        have hix : xs[i]? = some xs[i] := by simp [hxl, hi]
        refine w_ixL (atI_map xs nD hix) ?_
        bv_omega
        have hxi := hxs xs[i] (List.getElem_mem (by omega))
        obtain ⟨x, hx, hxn⟩ : ∃ x : Nat, max (i : Int) (xs[i] : Int) = (x : Int) ∧ x < n0 + 1 := ⟨max i xs[i], by omega, by omega⟩
        refine (show K (.int (max (i : Int) (xs[i] : Int))) _ from ?_)
        rw [hx]
        exact hk _ _ _ _ hxn hb' (.inr rfl)
      · bv_omega
        refine w_iteF' (decide_eq_false (by decide)) ?_
        bv_omega
        refine ⟨e5, ?_⟩
        have q9 := hfin ys c'' (.fz (.list (ys.map nD))) s9'' hyl hys hb''
        rw [List.map_append] at q9
        exact q9
    · refine w_iteF' (decide_eq_false (by decide)) ?_
      bv_omega
      refine w_iteF' (decide_eq_false (by decide)) ?_
      bv_omega
      refine w_iteF' (decide_eq_false (by decide)) ?_
      bv_omega
      refine w_iteF' (decide_eq_false (by decide)) ?_
      bv_omega
      refine w_iteT' (decide_eq_true (by decide)) ?_
      bv_omega
      refine take_ok (m := 2) hb' (by decide) (by decide) fun v c6 hv hb6 => ?_
      bv_omega
      by_cases z : (v : Int) = 0
      · refine w_iteT' (decide_eq_true z) ?_
        bv_omega
        refine row_lc (s3 := .fz d) (P6 := fun _ => True) hb6 (by omega) trivial (fun c' i s6' K hb' hi hp hk => ?_) (fun ys c'' s6'' s9'' hyl hys hb'' => ?_)
        · bv_omega
          refine w_dII (by omega) ?_
          have e : ((i : Int) + (by_ : Int)) % ((n0 + 1 : Nat) : Int) = (((i + by_) % (n0 + 1) : Nat) : Int) := by simp
          rw [e]
          exact hk _ _ _ _ (Nat.mod_lt _ (by omega)) hb' trivial
        · bv_omega
          refine ⟨e5, ?_⟩
          have q9 := hfin ys c'' (.fz (.list (ys.map nD))) s9'' hyl hys hb''
          rw [List.map_append] at q9
          exact q9
      · refine w_iteF' (decide_eq_false z) ?_
        bv_omega
        refine ⟨e5, ?_⟩
        have q9 := hfin xs c6 (.fz (.list (xs.map nD))) s9' hxl hxs hb6
        rw [List.map_append] at q9
        exact q9
    · refine w_iteF' (decide_eq_false (by decide)) ?_
      bv_omega
      refine w_iteF' (decide_eq_false (by decide)) ?_
      bv_omega
      refine w_iteF' (decide_eq_false (by decide)) ?_
      bv_omega
      refine w_iteF' (decide_eq_false (by decide)) ?_
      bv_omega
      refine w_iteF' (decide_eq_false (by decide)) ?_
      bv_omega
      refine ⟨e5, ?_⟩
      have q9 := hfin xs c' (.fz (.list (xs.map nD))) s9' hxl hxs hb'
      rw [List.map_append] at q9
      exact q9
  · obtain ⟨c', T, s3, s6, s7, s8, s9, hb', hl, hr1, hr2, rfl⟩ := hI
    bv_omega
    exact h T (n0 + 1) c' ⟨by omega, by omega, by simp at hl; omega, by simp at hl; omega, hr1, hr2⟩ (by omega) (by simp at hl; omega) hb'
  · exact ⟨c2, [], .un, .un, .un, .un, .un, hb2, by simp [rangeD], fun r hr => by simp at hr, fun r hr => by simp at hr, rfl⟩
end
end DL.K28
set_option Elab.async false
set_option linter.all false
set_option maxRecDepth 100000
set_option maxHeartbeats 4000000
namespace DL.K28
open PySem L2 Evl DL
variable [Tbs]
/-! ### values that are none -/
def Odd (d : D) : Prop := d = .none ∨ d = .bool true ∨ ∃ s, d = .str s
/-- no int from a to b -/
def Bad (a b : Int) (d : D) : Prop := Odd d ∨ ∃ i : Int, d = .int i ∧ ¬ (a ≤ i ∧ i ≤ b)
section
variable {C Lk Rf Tg Ns : Addr} {XX : Exn → List Sl → Prop} {R : Rv → List Sl → Prop}
theorem ty_no : isTy "int" .none = some false := by show subTy "NoneType" "int" = some false; decide
theorem ty_tr {b : Bool} : isTy "int" (.bool b) = some true := by show subTy "bool" "int" = some true; decide
theorem ty_bb {b : Bool} : isTy "bool" (.bool b) = some true := by show subTy "bool" "bool" = some true; decide
theorem ty_st {s : Str} : isTy "int" (.str s) = some false := by show subTy "str" "int" = some false; decide
theorem is_integer_odd {d : D} (hd : Odd d) (h : R (.d (.bool false)) [.un]) : dc_is_integer C Lk Rf Tg Ns [.fz d] XX R := by
  refine di_is_integer ?_
  unfold ds_is_integer
  bv_omega
  rcases hd with rfl | rfl | ⟨s, rfl⟩
  · refine w_ofS ty_no ?_
    bv_omega
    exact h
  · refine w_ofS ty_tr ?_
    bv_omega
    refine w_ofS ty_bb ?_
    bv_omega
    exact h
  · refine w_ofS ty_st ?_
    bv_omega
    exact h
theorem is_number_odd {d : D} (hd : Odd d) (h : R (.d (.bool false)) [.un]) : dc_is_number C Lk Rf Tg Ns [.fz d] XX R := by
  refine di_is_number ?_
  unfold ds_is_number
  bv_omega
  refine is_integer_odd hd ?_
  bv_omega
  exact h
theorem is_below_bad {d : D} {m : Int} (hd : Bad 0 (m - 1) d) (h : R (.d (.bool false)) [.un, .un]) : dc_is_below C Lk Rf Tg Ns [.fz d, .fz (.int m)] XX R := by
  rcases hd with hd | ⟨i, rfl, hi⟩
  · refine di_is_below ?_
    unfold ds_is_below
    bv_omega
    refine is_number_odd hd ?_
    bv_omega
    exact h
  · refine is_below_ok ?_
    have : (decide (0 ≤ i) && decide (i < m)) = false := by
      rw [Bool.and_eq_false_iff, decide_eq_false_iff_not, decide_eq_false_iff_not]
      omega
    rw [this]; exact h
theorem is_within_bad {d : D} {a b : Int} (hd : Bad a b d) (h : R (.d (.bool false)) [.un, .un, .un]) : dc_is_within C Lk Rf Tg Ns [.fz d, .fz (.int a), .fz (.int b)] XX R := by
  rcases hd with hd | ⟨i, rfl, hi⟩
  · refine di_is_within ?_
    unfold ds_is_within
    bv_omega
    refine is_integer_odd hd ?_
    bv_omega
    exact h
  · refine is_within_ok ?_
    have : (decide (a ≤ i) && decide (i ≤ b)) = false := by
      rw [Bool.and_eq_false_iff, decide_eq_false_iff_not, decide_eq_false_iff_not]
      omega
    rw [this]; exact h
theorem need_state_bad {T : List (List Nat)} {n : Nat} {d : D} (hd : Bad 0 ((n : Int) - 1) d) (h : XX ⟨Ns, "state", d⟩ [.un, .un]) : dc_need_state C Lk Rf Tg Ns [.fz (macD C T n), .fz d] XX R := by
  refine di_need_state ?_
  unfold ds_need_state
  bv_omega
  refine is_below_bad hd ?_
  bv_omega
  exact h
theorem need_loss_bad {d : D} (hd : Bad 0 8 d) (h : XX ⟨Rf, "at", d⟩ [.un]) : dc_need_loss C Lk Rf Tg Ns [.fz d] XX R := by
  refine di_need_loss ?_
  unfold ds_need_loss
  bv_omega
  refine di_is_within_loss ?_
  unfold ds_is_within_loss
  bv_omega
  refine is_within_bad hd ?_
  bv_omega
  exact h
/-! ### links -/
abbrev lkC (Lk C : Addr) (T : List (List Nat)) (n a L loss m : Nat) : Ct := .ins Lk lay_Link [macD C T n, nD a, nD L, nD loss, nD m]
abbrev lkD (Lk C : Addr) (T : List (List Nat)) (n a L loss m : Nat) : D := .ob Lk lay_Link [macD C T n, nD a, nD L, nD loss, nD m]
theorem within_ok {i a b : Nat} (h1 : a ≤ i) (h2 : i ≤ b) (h : R (.d (.bool true)) [.un, .un, .un]) : dc_is_within C Lk Rf Tg Ns [.fz (nD i), .fz (nD a), .fz (nD b)] XX R := by
  refine is_within_ok ?_
  rw [decide_eq_true (show (a : Int) ≤ i by omega), decide_eq_true (show (i : Int) ≤ b by omega)]
  exact h
theorem put_le {f : Str} {y : D} {lay : List Str} {xs : List D} {k : Nat} (h : xs.length ≤ k) : (fldPut f y lay xs).2.length ≤ k + 1 := Nat.le_trans fldPut_len (Nat.succ_le_succ h)
theorem link_init_ok {T : List (List Nat)} {n a L loss m : Nat} (ha : a < n) (hL : L ≤ 12) (hl : loss ≤ 8) (h1 : 1 ≤ m) (h9 : m ≤ 9) (h : R (.d .none) [.ow true (lkC Lk C T n a L loss m), .un, .un, .un, .un, .un]) :
    dc_Link___init__ C Lk Rf Tg Ns [.ow true (.ins Lk [] []), .fz (macD C T n), .fz (nD a), .fz (nD L), .fz (nD loss), .fz (nD m)] XX R := by
  refine di_Link___init__ ?_
  unfold ds_Link___init__
  bv_omega
  refine need_state_ok ha ?_
  bv_omega
  refine within_ok (a := 0) (b := 12) (Nat.zero_le _) hL ?_
  bv_omega
  refine within_ok (a := 0) (b := 8) (Nat.zero_le _) hl ?_
  bv_omega
  refine within_ok (a := 1) (b := 9) h1 h9 ?_
  bv_omega
  refine ⟨rfl, by decide, ?_⟩
  bv_omega
  refine ⟨rfl, Nat.lt_of_le_of_lt (put_le (Nat.le_refl 0)) (by decide), ?_⟩
  bv_omega
  refine ⟨rfl, Nat.lt_of_le_of_lt (put_le (put_le (Nat.le_refl 0))) (by decide), ?_⟩
  bv_omega
  refine ⟨rfl, Nat.lt_of_le_of_lt (put_le (put_le (put_le (Nat.le_refl 0)))) (by decide), ?_⟩
  bv_omega
  refine ⟨rfl, Nat.lt_of_le_of_lt (put_le (put_le (put_le (put_le (Nat.le_refl 0))))) (by decide), ?_⟩
  bv_omega
  exact h
end
end DL.K28
set_option Elab.async false
set_option linter.all false
set_option maxRecDepth 100000
set_option maxHeartbeats 4000000
namespace DL.K28
open PySem L2 Evl DL
variable [Tbs]
/-! ### a sight and its key -/
abbrev sD2 (σ : Sight) : D := .tuple [nD σ.1, pD σ.2]
def sKey2 (σ : Sight) : NestedKey := .tup [.num (σ.1 : Int), pKey σ.2]
theorem nk_pD (p : List Nat × Nat) : D.nk (pD p) = some (pKey p) := by
  have h : nksOf [rowD p.1, nD p.2] = some [nkR p.1, .num (p.2 : Int)] := by
    show (D.nk (rowD p.1)).bind (fun k => ((D.nk (nD p.2)).bind fun k => (some ([] : List NestedKey)).map (k :: ·)).map (k :: ·)) = _
    rw [nk_row]; rfl
  show (nksOf [rowD p.1, nD p.2]).map NestedKey.tup = _
  rw [h]; rfl
theorem sKey2_of (σ : Sight) : D.nkT (sD2 σ) = some (sKey2 σ) := by
  have h : nksOf [nD σ.1, pD σ.2] = some [.num (σ.1 : Int), pKey σ.2] := by
    show (D.nk (nD σ.1)).bind (fun k => ((D.nk (pD σ.2)).bind fun k => (some ([] : List NestedKey)).map (k :: ·)).map (k :: ·)) = _
    rw [nk_pD]; rfl
  show (nksOf [nD σ.1, pD σ.2]).bind _ = _
  rw [h]
  show (if (sKey2 σ).depth ≤ 8 then some (sKey2 σ) else none) = _
  rw [if_pos]
  unfold sKey2 pKey
  simp [NestedKey.depth, NestedKey.depthAll, dep_nkR]
theorem sKey2_inj {σ τ : Sight} (h : sKey2 σ = sKey2 τ) : σ = τ := by
  obtain ⟨s, p⟩ := σ
  obtain ⟨s', p'⟩ := τ
  unfold sKey2 at h
  injection h with h
  injection h with h1 h
  injection h with h2 _
  injection h1 with h1
  have h1 : (s : Int) = s' := h1
  have e2 : p = p' := pKey_inj h2
  rw [show s = s' by omega, e2]
theorem nkD_row (r : List Nat) : nkD (nkR r) = rowD r := by
  have : ∀ r : List Nat, nkDs (r.map fun x : Nat => NestedKey.num (x : Int)) = r.map nD := by
    intro r
    induction r with
    | nil => rw [List.map_nil, nkDs]; rfl
    | cons x r ih => rw [List.map_cons, nkDs, nkD, ih]; rfl
  unfold nkR
  rw [nkD, this]
theorem nkD_page (p : List Nat × Nat) : nkD (pKey p) = pD p := by
  unfold pKey
  rw [nkD, nkDs, nkDs, nkDs, nkD_row, nkD]
theorem nkD_sight (σ : Sight) : nkD (sKey2 σ) = sD2 σ := by
  unfold sKey2
  rw [nkD, nkDs, nkDs, nkDs, nkD_page, nkD]
/-! ### a sight led on -/
section
variable {T : List (List Nat)} {n a L loss m : Nat}
def sAll (T : List (List Nat)) (L m : Nat) (σ : Sight) (u : List Nat) : Sight := (run T σ.1 u, pg L m σ u)
theorem sAll_next (σ : Sight) (u : List Nat) (x : Nat) : sNext T L m (sAll T L m σ u) x = sAll T L m σ (u ++ [x]) := by
  unfold sNext sAll pg
  dsimp only
  rw [run_app, lastN_two, List.append_assoc, List.length_append, Nat.mod_add_mod, Nat.add_assoc]
  rfl
theorem sAll_nil {σ : Sight} (h : IsS T a L m σ) : sAll T L m σ [] = σ := by
  obtain ⟨w, hw, rfl⟩ := h
  unfold sAll pg sOf
  dsimp only
  rw [List.append_nil, lastN_lastN (Nat.le_refl L), List.length_nil, Nat.add_zero, Nat.mod_mod]
  rfl
theorem IsS.lead {σ : Sight} (h : IsS T a L m σ) : ∀ {u : List Nat}, Row T u → IsS T a L m (sAll T L m σ u) := fun {u} hu => by
  obtain ⟨w, hw, rfl⟩ := h
  refine ⟨w ++ u, hw.app hu, ?_⟩
  unfold sAll sOf pg
  dsimp only
  rw [lastN_two, run_two, List.length_append, Nat.mod_add_mod]
end
section
variable {C Lk Rf Tg Ns : Addr} {XX : Exn → List Sl → Prop} {R : Rv → List Sl → Prop}
theorem last_deeds_ok {r : List Nat} {L : Nat} (h : R (.d (rowD (lastN L r))) [.un, .un]) : dc_last_deeds C Lk Rf Tg Ns [.fz (rowD r), .fz (nD L)] XX R := by
  refine di_last_deeds ?_
  unfold ds_last_deeds
  bv_omega
  by_cases q : (L : Int) < ((r.map nD).length : Int)
  · refine w_iteT' (decide_eq_true q) ?_
    bv_omega
    rw [List.length_map] at q
    rw [List.length_map, cut_last (w := r) (L := L) (by omega)]
    bv_omega
    exact h
  · refine w_iteF' (decide_eq_false q) ?_
    bv_omega
    rw [List.length_map] at q
    rw [lastN_all (by omega)] at h
    exact h
theorem page_on_ok {T : List (List Nat)} {n a L loss m x : Nat} {p : List Nat × Nat} (h1 : 1 ≤ m) (hp : p.1.length ≤ 1000) (h : R (.d (pD (lastN L (p.1 ++ [x]), (p.2 + 1) % m))) [.ow true (lkC Lk C T n a L loss m), .un, .un]) :
    dc_page_on C Lk Rf Tg Ns [.ow true (lkC Lk C T n a L loss m), .fz (pD p), .fz (nD x)] XX R := by
  refine di_page_on ?_
  unfold ds_page_on
  bv_omega
  refine w_ixT (d := rowD p.1) rfl ?_
  bv_omega
  refine w_addT (big (by rw [List.length_map]; simp; omega)) ?_
  bv_omega
  refine w_ofS (x := nD L) rfl ?_
  bv_omega
  have e : (p.1.map nD ++ [nD x]) = (p.1 ++ [x]).map nD := by rw [List.map_append]; rfl
  rw [e]
  refine last_deeds_ok ?_
  bv_omega
  refine w_ixT (d := nD p.2) rfl ?_
  bv_omega
  refine w_ofS (x := nD m) rfl ?_
  bv_omega
  refine w_dII (by omega) ?_
  bv_omega
  have e2 : ((p.2 : Int) + 1) % (m : Int) = (((p.2 + 1) % m : Nat) : Int) := by simp
  rw [e2]
  exact h
theorem sight_on_ok {T : List (List Nat)} {n a L loss m x : Nat} {σ : Sight} (t : Tab T n) (h1 : 1 ≤ m) (hp : σ.2.1.length ≤ 1000) (hs : σ.1 < n) (hx : x < T.length) (h : R (.d (sD2 (sNext T L m σ x))) [.ow true (lkC Lk C T n a L loss m), .un, .un]) :
    dc_sight_on C Lk Rf Tg Ns [.ow true (lkC Lk C T n a L loss m), .fz (sD2 σ), .fz (nD x)] XX R := by
  obtain ⟨r, e1, e2, _⟩ := stp_at t hx hs
  refine di_sight_on ?_
  unfold ds_sight_on
  bv_omega
  refine w_ofS (x := macD C T n) rfl ?_
  bv_omega
  refine w_ixT (atI_map T rowD e1) ?_
  bv_omega
  refine w_ixT (d := nD σ.1) rfl ?_
  bv_omega
  refine w_ixT (atI_map r nD e2) ?_
  bv_omega
  refine w_ixT (d := pD σ.2) rfl ?_
  bv_omega
  refine page_on_ok (p := σ.2) h1 hp ?_
  bv_omega
  exact h
end
end DL.K28
set_option Elab.async false
set_option linter.all false
set_option maxRecDepth 100000
set_option maxHeartbeats 4000000
namespace DL.K28
open PySem L2 Evl DL
variable [Tbs]
/-! ### the sights that come, each with its first row -/
abbrev SW := List (Sight × List Nat)
def enW (W : SW) : List (NestedKey × D) := W.map fun p => (sKey2 p.1, rowD p.2)
theorem enW_none {σ : Sight} : ∀ {W : SW}, σ ∉ W.map (·.1) → dVal (enW W) (sKey2 σ) = none
  | [], _ => rfl
  | p :: W, h => by
    have h1 : ¬ sKey2 p.1 = sKey2 σ := fun z => h (by rw [← sKey2_inj z]; simp)
    have h2 := enW_none (σ := σ) (W := W) fun z => h (by rw [List.map_cons]; exact List.mem_cons_of_mem _ z)
    have : dVal (enW (p :: W)) (sKey2 σ) = dVal (enW W) (sKey2 σ) := by simp [dVal, enW, List.find?_cons, h1]
    rw [this, h2]
theorem enW_some {p : Sight × List Nat} : ∀ {W : SW}, (W.map (·.1)).Nodup → p ∈ W → dVal (enW W) (sKey2 p.1) = some (rowD p.2)
  | [], _, h => by simp at h
  | q :: W, nd, h => by
    rw [List.map_cons] at nd
    obtain ⟨n1, n2⟩ := List.nodup_cons.mp nd
    by_cases z : sKey2 q.1 = sKey2 p.1
    · have e : q.1 = p.1 := sKey2_inj z
      rcases List.mem_cons.mp h with rfl | h
      · simp [dVal, enW, List.find?_cons]
      · exact absurd (List.mem_map.mpr ⟨p, h, e.symm⟩) n1
    · have : dVal (enW (q :: W)) (sKey2 p.1) = dVal (enW W) (sKey2 p.1) := by simp [dVal, enW, List.find?_cons, z]
      rw [this]
      rcases List.mem_cons.mp h with rfl | h
      · exact absurd rfl z
      · exact enW_some n2 h
theorem enW_is {σ : Sight} {W : SW} (nd : (W.map (·.1)).Nodup) : (dVal (enW W) (sKey2 σ)).isSome = decide (σ ∈ W.map (·.1)) := by
  by_cases q : σ ∈ W.map (·.1)
  · obtain ⟨p, hp, rfl⟩ := List.mem_map.mp q
    rw [enW_some nd hp, decide_eq_true q]; rfl
  · rw [enW_none q, decide_eq_false q]; rfl
theorem enW_put {σ : Sight} {w : List Nat} {W : SW} (h : σ ∉ W.map (·.1)) : dPut (enW W) (sKey2 σ) (rowD w) = enW (W ++ [(σ, w)]) := by
  rw [dVal_new (enW_none h)]
  unfold enW
  rw [List.map_append]; rfl
structure SR (T : List (List Nat)) (a L m : Nat) (W : SW) : Prop where
  st : ((a, [], 0), []) ∈ W
  nd : (W.map (·.1)).Nodup
  row : ∀ p ∈ W, Row T p.2 ∧ p.1 = sOf T a L m p.2
  len : ∀ p ∈ W, p.2.length < W.length
section
variable {T : List (List Nat)} {n a L loss m : Nat}
theorem SR.is {W : SW} (h : SR T a L m W) {σ : Sight} (hs : σ ∈ W.map (·.1)) : IsS T a L m σ := by
  obtain ⟨p, hp, rfl⟩ := List.mem_map.mp hs
  exact ⟨p.2, (h.row p hp).1, (h.row p hp).2⟩
theorem SR.few {W : SW} (h : SR T a L m W) (t : Tab T n) (ha : a < n) (hm : 1 ≤ m) (f : Few T n L m) : W.length ≤ 900 := by
  have := sights_few t ha hm f h.nd fun σ hs => h.is hs
  rwa [List.length_map] at this
theorem SR.start : SR T a L m [((a, [], 0), [])] := by
  refine ⟨List.mem_singleton.mpr rfl, by simp, fun p hp => ?_, fun p hp => ?_⟩
  · rw [List.mem_singleton.mp hp]
    exact ⟨fun x hx => by simp at hx, by unfold sOf lastN; simp [run]⟩
  · rw [List.mem_singleton.mp hp]; simp
theorem SR.add {W : SW} (h : SR T a L m W) {p : Sight × List Nat} (hp : p ∈ W) {x : Nat} (hx : x < T.length) (hn : sNext T L m p.1 x ∉ W.map (·.1)) : SR T a L m (W ++ [(sNext T L m p.1 x, p.2 ++ [x])]) := by
  obtain ⟨r1, r2⟩ := h.row p hp
  refine ⟨List.mem_append_left _ h.st, ?_, fun q hq => ?_, fun q hq => ?_⟩
  · rw [List.map_append]
    refine List.nodup_append.mpr ⟨h.nd, by simp, fun y hy z hz => ?_⟩
    rw [List.map_singleton, List.mem_singleton] at hz
    intro e
    rw [e, hz] at hy
    exact hn hy
  · rcases List.mem_append.mp hq with hq | hq
    · exact h.row q hq
    · rw [List.mem_singleton.mp hq]
      exact ⟨r1.app fun y hy => by rw [List.mem_singleton.mp hy]; exact hx, by rw [r2, sNext_of]⟩
  · rw [List.length_append, List.length_singleton]
    rcases List.mem_append.mp hq with hq | hq
    · have := h.len q hq; omega
    · rw [List.mem_singleton.mp hq, List.length_append, List.length_singleton]
      have := h.len p hp; omega
/-- all deeds of the first k are gone on -/
def Gone (T : List (List Nat)) (L m : Nat) (W : SW) (k : Nat) : Prop := ∀ i p, i < k → W[i]? = some p → ∀ x, x < T.length → sNext T L m p.1 x ∈ W.map (·.1)
theorem Gone.app {W : SW} {k : Nat} (h : Gone T L m W k) (hk : k ≤ W.length) (V : SW) : Gone T L m (W ++ V) k := fun i p hi hp x hx => by
  rw [List.getElem?_append_left (by omega)] at hp
  rw [List.map_append]
  exact List.mem_append_left _ (h i p hi hp x hx)
theorem SR.closed {W : SW} (h : SR T a L m W) (g : Gone T L m W W.length) : ∀ σ, IsS T a L m σ → σ ∈ W.map (·.1) := by
  rintro σ ⟨w, hw, rfl⟩
  refine closed_all (List.mem_map.mpr ⟨_, h.st, rfl⟩) (fun σ hs x hx => ?_) _ w rfl hw
  obtain ⟨p, hp, rfl⟩ := List.mem_map.mp hs
  obtain ⟨i, hi⟩ := List.mem_iff_getElem?.mp hp
  exact g i p (List.getElem?_eq_some_iff.mp hi).1 hi x hx
end
section
variable {C Lk Rf Tg Ns : Addr} {XX : Exn → List Sl → Prop} {R : Rv → List Sl → Prop}
theorem sight_rows_ok {T : List (List Nat)} {n a L loss m : Nat} (t : Tab T n) (ha : a < n) (h1 : 1 ≤ m) (hL : L ≤ 12) (f : Few T n L m) (h : ∀ W, SR T a L m W → Gone T L m W W.length → R (.nw (.dctN (enW W))) [.ow true (lkC Lk C T n a L loss m), .un]) :
    dc_sight_rows C Lk Rf Tg Ns [.ow true (lkC Lk C T n a L loss m), .fz (.int 4000)] XX R := by
  have ht4 := t.t4
  refine di_sight_rows ?_
  unfold ds_sight_rows
  bv_omega
  refine w_ofS (x := nD a) rfl ?_
  bv_omega
  refine w_ofS (sKey2_of (a, [], 0)) ?_
  bv_omega
  refine while_go (I := fun j ρ => ∃ (W : SW) (k : Nat) (s6 s7 s8 : Sl), j + k = 1000 ∧ SR T a L m W ∧ k ≤ W.length ∧ Gone T L m W k ∧ ρ = [.ow true (lkC Lk C T n a L loss m), .fz (.int 4000), .fz (sD2 (a, [], 0)), .ow false (.dctN (enW W)), .ow false (.lst (W.map fun p => sD2 p.1)), .fz (nD k), s6, s7, s8]) (fun j ρ Kx hK hI => ?_) (k := 1000) ⟨[((a, [], 0), [])], 0, .un, .un, .un, rfl, SR.start, Nat.zero_le _, fun i p hi => by omega, rfl⟩
  obtain ⟨W, k, s6, s7, s8, hj, hW, hk, hg, rfl⟩ := hI
  have hWl := hW.few t ha h1 f
  bv_omega
  refine w_lenS rfl (by rw [List.length_map]; omega) ?_
  bv_omega
  rw [List.length_map]
  by_cases q : (k : Int) < (W.length : Int)
  · refine w_iteT' (decide_eq_true q) ?_
    have hkW : k < W.length := by omega
    obtain ⟨p, hp⟩ : ∃ p, W[k]? = some p := ⟨W[k], by simp [hkW]⟩
    have hpW : p ∈ W := List.mem_of_getElem? hp
    have hpi : IsS T a L m p.1 := hW.is (List.mem_map.mpr ⟨p, hpW, rfl⟩)
    have hps := hpi.lt t ha
    have hpr := hpi.row
    bv_omega
    refine ⟨sD2 p.1, atI_map W (fun p => sD2 p.1) hp, ?_⟩
    bv_omega
    refine w_ofS (x := macD C T n) rfl ?_
    bv_omega
    refine ⟨⟨by omega, by omega⟩, ?_⟩
    rw [Int.toNat_natCast, show rangeD 0 1 T.length = (List.range' 0 T.length).map nD from rangeD1 0 T.length]
    refine forL_go (I := fun ds ρ => ∃ (W' : SW) (x y : Nat) (s7 s8 : Sl), ds = (List.range' x y).map nD ∧ x + y = T.length ∧ SR T a L m W' ∧ k < W'.length ∧ W'[k]? = some p ∧ Gone T L m W' k ∧ (∀ z, z < x → sNext T L m p.1 z ∈ W'.map (·.1)) ∧
      ρ = [.ow true (lkC Lk C T n a L loss m), .fz (.int 4000), .fz (sD2 (a, [], 0)), .ow false (.dctN (enW W')), .ow false (.lst (W'.map fun p => sD2 p.1)), .fz (.int ((k : Int) + 1)), .fz (sD2 p.1), s7, s8]) (fun d ds ρ Ky hKy hJ => ?_) (fun ρ hJ => ?_) ⟨W, 0, T.length, s7, s8, rfl, by omega, hW, hkW, hp, hg, fun z hz => by omega, rfl⟩
    · obtain ⟨W', x, y, s7, s8, e, hxy, hW', hk', hp', hg', hc, rfl⟩ := hJ
      cases y with
      | zero => cases e
      | succ y =>
        rw [List.range'_succ] at e
        cases e
        have hx : x < T.length := by omega
        have hp'W : p ∈ W' := List.mem_of_getElem? hp'
        have hW'l := hW'.few t ha h1 f
        bv_omega
        refine sight_on_ok t h1 (by omega) hps hx ?_
        bv_omega
        refine w_ctN (sKey2_of (sNext T L m p.1 x)) ?_
        rw [enW_is hW'.nd]
        by_cases z : sNext T L m p.1 x ∈ W'.map (·.1)
        · rw [decide_eq_true z]
          bv_omega
          exact hKy _ ⟨W', x + 1, y, _, _, rfl, by omega, hW', hk', hp', hg', fun z' hz' => by
            by_cases e : z' = x
            · subst e; exact z
            · exact hc z' (by omega), rfl⟩
        · rw [decide_eq_false z]
          bv_omega
          rw [show (enW W').length = W'.length from List.length_map _]
          refine w_iteF' (decide_eq_false (by omega)) ?_
          bv_omega
          refine w_ctN (sKey2_of p.1) ⟨rowD p.2, enW_some hW'.nd hp'W, ?_⟩
          bv_omega
          have hlen := hW'.len p hp'W
          refine w_addT (big (by rw [List.length_map]; simp; omega)) ?_
          bv_omega
          refine w_ctN (sKey2_of (sNext T L m p.1 x)) ⟨by rw [show (enW W').length = W'.length from List.length_map _]; omega, ?_⟩
          have e1 : D.tuple (p.2.map nD ++ [nD x]) = rowD (p.2 ++ [x]) := by show _ = D.tuple ((p.2 ++ [x]).map nD); rw [List.map_append]; rfl
          have e2 := hW'.add hp'W hx z
          rw [e1, enW_put z]
          bv_omega
          refine ⟨by rw [List.length_map]; omega, ?_⟩
          bv_omega
          refine hKy _ ⟨W' ++ [(sNext T L m p.1 x, p.2 ++ [x])], x + 1, y, .fz (nD x), .fz (sD2 (sNext T L m p.1 x)), rfl, by omega, e2, by rw [List.length_append]; omega, by rw [List.getElem?_append_left hk']; exact hp', hg'.app (by omega) _, fun z' hz' => ?_, ?_⟩
          · rw [List.map_append]
            by_cases e : z' = x
            · subst e
              exact List.mem_append_right _ (List.mem_singleton.mpr rfl)
            · exact List.mem_append_left _ (hc z' (by omega))
          · rw [List.map_append]; rfl
    · obtain ⟨W', x, y, s7, s8, e, hxy, hW', hk', hp', hg', hc, rfl⟩ := hJ
      cases y with
      | succ y => rw [List.range'_succ] at e; cases e
      | zero =>
        bv_omega
        have hW'l := hW'.few t ha h1 f
        refine hK (j - 1) _ (by omega) ⟨W', k + 1, _, _, _, by omega, hW', by omega, fun i q hi hq z hz => ?_, rfl⟩
        by_cases e : i = k
        · subst e
          rw [hp'] at hq
          cases hq
          exact hc z (by omega)
        · exact hg' i q (by omega) hq z hz
  · refine w_iteF' (decide_eq_false q) ?_
    bv_omega
    refine h W hW ?_
    have : k = W.length := by omega
    rw [← this]; exact hg
end
end DL.K28
set_option Elab.async false
set_option linter.all false
set_option maxRecDepth 100000
set_option maxHeartbeats 4000000
namespace DL.K28
open PySem L2 Evl DL
variable [Tbs]
/-! ### what can have been done behind a sight -/
structure WR (T : List (List Nat)) (L m : Nat) (σ : Sight) (k : Nat) (W : SW) : Prop where
  nd : (W.map (·.1)).Nodup
  row : ∀ p ∈ W, Row T p.2 ∧ p.2.length ≤ k ∧ p.1 = sAll T L m σ p.2
  full : ∀ u, Row T u → u.length ≤ k → sAll T L m σ u ∈ W.map (·.1)
section
variable {T : List (List Nat)} {n a L loss m : Nat} {σ : Sight}
theorem rows_few (t : Tab T n) (ha : a < n) (h1 : 1 ≤ m) (f : Few T n L m) (hs : IsS T a L m σ) {W : SW} (nd : (W.map (·.1)).Nodup) (h : ∀ p ∈ W, Row T p.2 ∧ p.1 = sAll T L m σ p.2) : W.length ≤ 900 := by
  have := sights_few t ha h1 f nd fun τ hτ => by
    obtain ⟨p, hp, rfl⟩ := List.mem_map.mp hτ
    obtain ⟨e1, e2⟩ := h p hp
    rw [e2]
    exact hs.lead e1
  rwa [List.length_map] at this
end
section
variable {C Lk Rf Tg Ns : Addr} {XX : Exn → List Sl → Prop} {R : Rv → List Sl → Prop}
theorem sights_within_ok {T : List (List Nat)} {n a L loss m : Nat} {σ : Sight} (t : Tab T n) (ha : a < n) (h1 : 1 ≤ m) (hL : L ≤ 12) (hl : loss ≤ 8) (f : Few T n L m) (hs : IsS T a L m σ) (h : ∀ W, WR T L m σ loss W → R (.nw (.dctN (enW W))) [.ow true (lkC Lk C T n a L loss m), .un]) :
    dc_sights_within C Lk Rf Tg Ns [.ow true (lkC Lk C T n a L loss m), .fz (sD2 σ)] XX R := by
  have ht4 := t.t4
  refine di_sights_within ?_
  unfold ds_sights_within
  bv_omega
  refine w_ofS (sKey2_of σ) ?_
  bv_omega
  refine w_ofS (x := nD loss) rfl ?_
  bv_omega
  refine ⟨⟨by omega, by omega⟩, ?_⟩
  rw [Int.toNat_natCast, show rangeD 0 1 loss = (List.range' 0 loss).map nD from rangeD1 0 loss]
  refine forL_go (I := fun ds ρ => ∃ (k j : Nat) (W : SW) (Ly : List Sight) (s3 s4 s5 s6 s7 s8 : Sl), ds = (List.range' k j).map nD ∧ k + j = loss ∧ WR T L m σ k W ∧ (∀ τ ∈ Ly, τ ∈ W.map (·.1)) ∧ Ly.length ≤ 1000 ∧ (∀ τ ∈ W.map (·.1), τ ∈ Ly ∨ ∀ x, x < T.length → sNext T L m τ x ∈ W.map (·.1)) ∧
    Two s3 (.lst (Ly.map sD2)) ∧ ρ = [.ow true (lkC Lk C T n a L loss m), .fz (sD2 σ), .ow false (.dctN (enW W)), s3, s4, s5, s6, s7, s8]) (fun d ds ρ Kx hK hI => ?_) (fun ρ hI => ?_) ?_
  · obtain ⟨k, j, W, Ly, s3, s4, s5, s6, s7, s8, e, hkj, hW, hly, hll, hcl, h3, rfl⟩ := hI
    cases j with
    | zero => cases e
    | succ j =>
    rw [List.range'_succ] at e
    cases e
    have hWl := rows_few t ha h1 f hs hW.nd fun p hp => ⟨(hW.row p hp).1, (hW.row p hp).2.2⟩
    bv_omega
    refine w_varB (i := 3) h3 ?_
    bv_omega
    refine forL_go (I := fun ds ρ => ∃ (A B : List Sight) (V : SW) (s6 s7 s8 : Sl), ds = B.map sD2 ∧ Ly = A ++ B ∧ ((W ++ V).map (·.1)).Nodup ∧ (∀ p ∈ W ++ V, Row T p.2 ∧ p.2.length ≤ k + 1 ∧ p.1 = sAll T L m σ p.2) ∧ (∀ τ ∈ A, ∀ x, x < T.length → sNext T L m τ x ∈ (W ++ V).map (·.1)) ∧
      ρ = [.ow true (lkC Lk C T n a L loss m), .fz (sD2 σ), .ow false (.dctN (enW (W ++ V))), .fz (.list (Ly.map sD2)), .fz (nD k), .ow false (.lst (V.map fun p => sD2 p.1)), s6, s7, s8]) (fun d ds ρ Ky hKy hJ => ?_) (fun ρ hJ => ?_) ⟨[], Ly, [], s6, s7, s8, rfl, rfl, by rw [List.append_nil]; exact hW.nd, fun p hp => by rw [List.append_nil] at hp; have := hW.row p hp; exact ⟨this.1, by omega, this.2.2⟩, fun τ hτ => by simp at hτ, by rw [List.append_nil]; rfl⟩
    · obtain ⟨A, B, V, s6, s7, s8, e, hab, hnd, hrow, hA, rfl⟩ := hJ
      cases B with
      | nil => cases e
      | cons τ B =>
      cases e
      obtain ⟨p, hp, hpe⟩ := List.mem_map.mp (hly τ (by rw [hab]; simp))
      subst hpe
      obtain ⟨r1, r2, r3⟩ := hW.row p hp
      have hpi : IsS T a L m p.1 := by rw [r3]; exact hs.lead r1
      have hps := hpi.lt t ha
      have hpr := hpi.row
      bv_omega
      refine w_ofS (x := macD C T n) rfl ?_
      bv_omega
      refine ⟨⟨by omega, by omega⟩, ?_⟩
      rw [Int.toNat_natCast, show rangeD 0 1 T.length = (List.range' 0 T.length).map nD from rangeD1 0 T.length]
      refine forL_go (I := fun ds ρ => ∃ (V : SW) (x y : Nat) (s7 s8 : Sl), ds = (List.range' x y).map nD ∧ x + y = T.length ∧ ((W ++ V).map (·.1)).Nodup ∧ (∀ p ∈ W ++ V, Row T p.2 ∧ p.2.length ≤ k + 1 ∧ p.1 = sAll T L m σ p.2) ∧ (∀ τ ∈ A, ∀ x, x < T.length → sNext T L m τ x ∈ (W ++ V).map (·.1)) ∧ (∀ z, z < x → sNext T L m p.1 z ∈ (W ++ V).map (·.1)) ∧
        ρ = [.ow true (lkC Lk C T n a L loss m), .fz (sD2 σ), .ow false (.dctN (enW (W ++ V))), .fz (.list (Ly.map sD2)), .fz (nD k), .ow false (.lst (V.map fun p => sD2 p.1)), .fz (sD2 p.1), s7, s8]) (fun d ds ρ Kz hKz hJ2 => ?_) (fun ρ hJ2 => ?_) ⟨V, 0, T.length, s7, s8, rfl, by omega, hnd, hrow, hA, fun z hz => by omega, rfl⟩
      · obtain ⟨V, x, y, s7, s8, e, hxy, hnd, hrow, hA, hc, rfl⟩ := hJ2
        cases y with
        | zero => cases e
        | succ y =>
        rw [List.range'_succ] at e
        cases e
        have hx : x < T.length := by omega
        have hVl := rows_few t ha h1 f hs hnd fun p hp => ⟨(hrow p hp).1, (hrow p hp).2.2⟩
        rw [List.length_append] at hVl
        bv_omega
        refine sight_on_ok t h1 (by omega) hps hx ?_
        bv_omega
        refine w_ctN (sKey2_of (sNext T L m p.1 x)) ?_
        rw [enW_is hnd]
        by_cases z : sNext T L m p.1 x ∈ (W ++ V).map (·.1)
        · rw [decide_eq_true z]
          bv_omega
          exact hKz _ ⟨V, x + 1, y, _, _, rfl, by omega, hnd, hrow, hA, fun z' hz' => by
            by_cases e : z' = x
            · subst e; exact z
            · exact hc z' (by omega), rfl⟩
        · rw [decide_eq_false z]
          bv_omega
          refine w_ctN (sKey2_of p.1) ⟨rowD p.2, enW_some hnd (List.mem_append_left _ hp), ?_⟩
          bv_omega
          refine w_addT (big (by rw [List.length_map]; simp; omega)) ?_
          bv_omega
          refine w_ctN (sKey2_of (sNext T L m p.1 x)) ⟨by rw [show (enW (W ++ V)).length = (W ++ V).length from List.length_map _, List.length_append]; omega, ?_⟩
          have e1 : D.tuple (p.2.map nD ++ [nD x]) = rowD (p.2 ++ [x]) := by show _ = D.tuple ((p.2 ++ [x]).map nD); rw [List.map_append]; rfl
          have e3 : sNext T L m p.1 x = sAll T L m σ (p.2 ++ [x]) := by rw [r3]; exact sAll_next σ p.2 x
          rw [e1, enW_put z, List.append_assoc]
          bv_omega
          refine ⟨by rw [List.length_map]; omega, ?_⟩
          bv_omega
          refine hKz _ ⟨V ++ [(sNext T L m p.1 x, p.2 ++ [x])], x + 1, y, .fz (nD x), .fz (sD2 (sNext T L m p.1 x)), rfl, by omega, ?_, fun q hq => ?_, fun τ hτ z' hz' => ?_, fun z' hz' => ?_, ?_⟩
          · rw [← List.append_assoc, List.map_append]
            refine List.nodup_append.mpr ⟨hnd, by simp, fun y hy z0 hz0 => ?_⟩
            rw [List.map_singleton, List.mem_singleton] at hz0
            intro e
            rw [e, hz0] at hy
            exact z hy
          · rw [← List.append_assoc] at hq
            rcases List.mem_append.mp hq with hq | hq
            · exact hrow q hq
            · rw [List.mem_singleton.mp hq]
              exact ⟨r1.app fun y hy => by rw [List.mem_singleton.mp hy]; exact hx, by simp; omega, e3⟩
          · rw [← List.append_assoc, List.map_append]
            exact List.mem_append_left _ (hA τ hτ z' hz')
          · rw [← List.append_assoc, List.map_append]
            by_cases e : z' = x
            · subst e
              exact List.mem_append_right _ (List.mem_singleton.mpr rfl)
            · exact List.mem_append_left _ (hc z' (by omega))
          · rw [List.map_append]; rfl
      · obtain ⟨V, x, y, s7, s8, e, hxy, hnd, hrow, hA, hc, rfl⟩ := hJ2
        cases y with
        | succ y => rw [List.range'_succ] at e; cases e
        | zero =>
        bv_omega
        refine hKy _ ⟨A ++ [p.1], B, V, _, _, _, rfl, by rw [hab]; simp, hnd, hrow, fun τ hτ x hx => ?_, rfl⟩
        rcases List.mem_append.mp hτ with hτ | hτ
        · exact hA τ hτ x hx
        · rw [List.mem_singleton.mp hτ]; exact hc x (by omega)
    · obtain ⟨A, B, V, s6, s7, s8, e, hab, hnd, hrow, hA, rfl⟩ := hJ
      cases B with
      | cons τ B => cases e
      | nil =>
      have hVl := rows_few t ha h1 f hs hnd fun p hp => ⟨(hrow p hp).1, (hrow p hp).2.2⟩
      rw [List.length_append] at hVl
      rw [List.append_nil] at hab
      subst hab
      bv_omega
      have old : ∀ τ ∈ W.map (·.1), ∀ x, x < T.length → sNext T L m τ x ∈ (W ++ V).map (·.1) := fun τ hτ x hx => by
        rcases hcl τ hτ with z | z
        · exact hA τ z x hx
        · rw [List.map_append]; exact List.mem_append_left _ (z x hx)
      refine hK _ ⟨k + 1, j, W ++ V, V.map (·.1), .fz (.list ((V.map (·.1)).map sD2)), .fz (nD k), .fz (.list (V.map fun p => sD2 p.1)), s6, s7, s8, rfl, by omega, ⟨hnd, hrow, fun u hu hul => ?_⟩, fun τ hτ => by rw [List.map_append]; exact List.mem_append_right _ hτ, by rw [List.length_map]; omega, fun τ hτ => ?_, .inr rfl, ?_⟩
      · by_cases q : u.length ≤ k
        · rw [List.map_append]; exact List.mem_append_left _ (hW.full u hu q)
        · have hne : u ≠ [] := fun z => by rw [z] at q; exact q (Nat.zero_le _)
          have e := List.dropLast_concat_getLast hne
          have h2 := hW.full u.dropLast (fun x hx => hu x (List.dropLast_subset u hx)) (by rw [List.length_dropLast]; omega)
          have h3 := old _ h2 (u.getLast hne) (hu _ (List.getLast_mem hne))
          rw [sAll_next, e] at h3
          exact h3
      · rw [List.map_append] at hτ
        rcases List.mem_append.mp hτ with z | z
        · exact .inr (old τ z)
        · exact .inl z
      · rw [List.map_map]; rfl
  · obtain ⟨k, j, W, Ly, s3, s4, s5, s6, s7, s8, e, hkj, hW, hly, hll, hcl, h3, rfl⟩ := hI
    cases j with
    | succ j => rw [List.range'_succ] at e; cases e
    | zero =>
    bv_omega
    have : k = loss := by omega
    subst this
    exact h W hW
  · refine ⟨0, loss, [(σ, [])], [σ], .ow false (.lst [sD2 σ]), .un, .un, .un, .un, .un, rfl, by omega, ⟨by simp, fun p hp => ?_, fun u hu hul => ?_⟩, fun τ hτ => ?_, by simp, fun τ hτ => .inl hτ, .inl rfl, rfl⟩
    · rw [List.mem_singleton.mp hp]
      exact ⟨fun x hx => by simp at hx, Nat.le_refl _, (sAll_nil hs).symm⟩
    · rw [List.eq_nil_of_length_eq_zero (l := u) (by omega), sAll_nil hs]
      exact List.mem_singleton.mpr rfl
    · exact hτ
end
end DL.K28
set_option Elab.async false
set_option linter.all false
set_option maxRecDepth 100000
set_option maxHeartbeats 4000000
namespace DL.K28
open PySem L2 Evl DL
variable [Tbs]
/-! ### pages that leave states open -/
def pgW (A : SW) : List (NestedKey × D) := A.map fun p => (pKey p.1.2, rowD p.2)
theorem pgW_none {q : List Nat × Nat} : ∀ {W : SW}, q ∉ W.map (·.1.2) → dVal (pgW W) (pKey q) = none
  | [], _ => rfl
  | p :: W, h => by
    have h1 : ¬ pKey p.1.2 = pKey q := fun z => h (by rw [← pKey_inj z]; simp)
    have h2 := pgW_none (q := q) (W := W) fun z => h (by rw [List.map_cons]; exact List.mem_cons_of_mem _ z)
    have : dVal (pgW (p :: W)) (pKey q) = dVal (pgW W) (pKey q) := by simp [dVal, pgW, List.find?_cons, h1]
    rw [this, h2]
theorem pgW_some {p : Sight × List Nat} : ∀ {W : SW}, (W.map (·.1.2)).Nodup → p ∈ W → dVal (pgW W) (pKey p.1.2) = some (rowD p.2)
  | [], _, h => by simp at h
  | q :: W, nd, h => by
    rw [List.map_cons] at nd
    obtain ⟨n1, n2⟩ := List.nodup_cons.mp nd
    by_cases z : pKey q.1.2 = pKey p.1.2
    · have e : q.1.2 = p.1.2 := pKey_inj z
      rcases List.mem_cons.mp h with rfl | h
      · simp [dVal, pgW, List.find?_cons]
      · exact absurd (List.mem_map.mpr ⟨p, h, e.symm⟩) n1
    · have : dVal (pgW (q :: W)) (pKey p.1.2) = dVal (pgW W) (pKey p.1.2) := by simp [dVal, pgW, List.find?_cons, z]
      rw [this]
      rcases List.mem_cons.mp h with rfl | h
      · exact absurd rfl z
      · exact pgW_some n2 h
theorem pgW_put {p : Sight × List Nat} {W : SW} (h : p.1.2 ∉ W.map (·.1.2)) : dPut (pgW W) (pKey p.1.2) (rowD p.2) = pgW (W ++ [p]) := by
  rw [dVal_new (pgW_none h)]
  unfold pgW
  rw [List.map_append]; rfl
theorem map_inj {α β : Type} {f : α → β} : ∀ {l : List α}, (l.map f).Nodup → ∀ {x y}, x ∈ l → y ∈ l → f x = f y → x = y
  | [], _, _, _, hx, _, _ => by simp at hx
  | z :: l, nd, x, y, hx, hy, e => by
    rw [List.map_cons] at nd
    obtain ⟨n1, n2⟩ := List.nodup_cons.mp nd
    rcases List.mem_cons.mp hx with h1 | h1
    · rcases List.mem_cons.mp hy with h2 | h2
      · rw [h1, h2]
      · exact absurd (List.mem_map.mpr ⟨y, h2, by rw [← e, h1]⟩) n1
    · rcases List.mem_cons.mp hy with h2 | h2
      · exact absurd (List.mem_map.mpr ⟨x, h1, by rw [e, h2]⟩) n1
      · exact map_inj n2 h1 h2 e
theorem WR.cf {T : List (List Nat)} {L m loss : Nat} {σ : Sight} {W : SW} (h : WR T L m σ loss W) (nd : (W.map (·.1.2)).Nodup) : CF T L loss m σ := fun u hu v hv e => by
  obtain ⟨u1, u2⟩ := (rowsUp_mem loss).mp hu
  obtain ⟨v1, v2⟩ := (rowsUp_mem loss).mp hv
  obtain ⟨p, hp, ep⟩ := List.mem_map.mp (h.full u u1 u2)
  obtain ⟨q, hq, eq⟩ := List.mem_map.mp (h.full v v1 v2)
  have : p = q := map_inj nd hp hq (by rw [ep, eq]; exact e)
  rw [this, eq] at ep
  exact congrArg (·.1) ep.symm
theorem itemsW (W : SW) : dItems (.dictN (enW W)) = some (W.map fun p => D.tuple [sD2 p.1, rowD p.2]) := by
  show some ((enW W).map fun p => D.tuple [nkD p.1, p.2]) = _
  unfold enW
  rw [List.map_map]
  congr 1
  refine List.map_congr_left fun p _ => ?_
  show D.tuple [nkD (sKey2 p.1), rowD p.2] = _
  rw [nkD_sight]
section
variable {C Lk Rf Tg Ns : Addr} {XX : Exn → List Sl → Prop} {R : Rv → List Sl → Prop}
theorem open_rows_ok {T : List (List Nat)} {n a L loss m : Nat} {σ : Sight} (t : Tab T n) (ha : a < n) (h1 : 1 ≤ m) (hL : L ≤ 12) (hl : loss ≤ 8) (f : Few T n L m) (hs : IsS T a L m σ) (ho : CF T L loss m σ → R (.d .none) [.ow true (lkC Lk C T n a L loss m), .un])
    (hn : ∀ u v, Row T u → Row T v → u.length ≤ loss → v.length ≤ loss → pg L m σ u = pg L m σ v → run T σ.1 u ≠ run T σ.1 v → R (.d (.tuple [rowD u, rowD v])) [.ow true (lkC Lk C T n a L loss m), .un]) :
    dc_open_rows C Lk Rf Tg Ns [.ow true (lkC Lk C T n a L loss m), .fz (sD2 σ)] XX R := by
  refine di_open_rows ?_
  unfold ds_open_rows
  bv_omega
  refine sights_within_ok t ha h1 hL hl f hs fun W hW => ?_
  have hWl := rows_few t ha h1 f hs hW.nd fun p hp => ⟨(hW.row p hp).1, (hW.row p hp).2.2⟩
  bv_omega
  refine w_ofS (itemsW W) ?_
  refine forL_go (I := fun ds ρ => ∃ (A B : SW) (s3 s4 s5 : Sl), ds = B.map (fun p => D.tuple [sD2 p.1, rowD p.2]) ∧ W = A ++ B ∧ (A.map (·.1.2)).Nodup ∧ ρ = [.ow true (lkC Lk C T n a L loss m), .fz (sD2 σ), .ow false (.dctN (pgW A)), s3, s4, s5]) (fun d ds ρ Kx hK hI => ?_) (fun ρ hI => ?_) ⟨[], W, .un, .un, .un, rfl, rfl, by simp, rfl⟩
  · obtain ⟨A, B, s3, s4, s5, e, hab, hnd, rfl⟩ := hI
    cases B with
    | nil => cases e
    | cons p B =>
    cases e
    have hp : p ∈ W := by rw [hab]; simp
    have hAl : A.length ≤ 900 := by rw [hab, List.length_append] at hWl; omega
    bv_omega
    refine w_ctN (pKey_of p.1.2) ?_
    by_cases q : p.1.2 ∈ A.map (·.1.2)
    · obtain ⟨r, hr, er⟩ := List.mem_map.mp q
      have e1 : dVal (pgW A) (pKey p.1.2) = some (rowD r.2) := by rw [← er]; exact pgW_some hnd hr
      rw [show (dVal (pgW A) (pKey p.1.2)).isSome = true by rw [e1]; rfl]
      bv_omega
      refine w_ctN (pKey_of p.1.2) ⟨_, e1, ?_⟩
      bv_omega
      have hrW : r ∈ W := by rw [hab]; exact List.mem_append_left _ hr
      obtain ⟨a1, a2, a3⟩ := hW.row r hrW
      obtain ⟨b1, b2, b3⟩ := hW.row p hp
      refine hn r.2 p.2 a1 b1 a2 b2 ?_ fun z => ?_
      · have e2 : r.1.2 = pg L m σ r.2 := by rw [a3]; rfl
        have e3 : p.1.2 = pg L m σ p.2 := by rw [b3]; rfl
        rw [← e2, ← e3, er]
      · have e2 : r.1.1 = p.1.1 := by rw [a3, b3]; exact z
        have e3 : r.1 = p.1 := Prod.ext e2 er
        have hnd2 := hW.nd
        rw [hab, List.map_append, List.map_cons] at hnd2
        exact (List.nodup_append.mp hnd2).2.2 r.1 (List.mem_map.mpr ⟨r, hr, rfl⟩) p.1 (by simp) e3
    · rw [show (dVal (pgW A) (pKey p.1.2)).isSome = false by rw [pgW_none q]; rfl]
      bv_omega
      refine w_ctN (pKey_of p.1.2) ⟨by rw [show (pgW A).length = A.length from List.length_map _]; omega, ?_⟩
      rw [pgW_put q]
      bv_omega
      refine hK _ ⟨A ++ [p], B, .fz (rowD p.2), .fz (nD p.1.1), .fz (pD p.1.2), rfl, by rw [hab]; simp, ?_, rfl⟩
      rw [List.map_append]
      refine List.nodup_append.mpr ⟨hnd, by simp, fun y hy z0 hz0 => ?_⟩
      rw [List.map_singleton, List.mem_singleton] at hz0
      intro e
      rw [e, hz0] at hy
      exact q hy
  · obtain ⟨A, B, s3, s4, s5, e, hab, hnd, rfl⟩ := hI
    cases B with
    | cons p B => cases e
    | nil =>
    bv_omega
    rw [List.append_nil] at hab
    subst hab
    exact ho (hW.cf hnd)
theorem open_paper_ok {T : List (List Nat)} {n a L loss m : Nat} (t : Tab T n) (ha : a < n) (h1 : 1 ≤ m) (hL : L ≤ 12) (hl : loss ≤ 8) (f : Few T n L m) (ho : Right T a L loss m → R (.d .none) [.ow true (lkC Lk C T n a L loss m), .un])
    (hn : ∀ w u v, ¬ Right T a L loss m → R (.d (.tuple [.str "runs", rowD w, rowD u, rowD v])) [.ow true (lkC Lk C T n a L loss m), .un]) :
    dc_open_paper C Lk Rf Tg Ns [.ow true (lkC Lk C T n a L loss m), .fz (.int 4000)] XX R := by
  refine di_open_paper ?_
  unfold ds_open_paper
  bv_omega
  refine sight_rows_ok t ha h1 hL f fun W hW hg => ?_
  bv_omega
  refine w_ofS (itemsW W) ?_
  refine forL_go (I := fun ds ρ => ∃ (A B : SW) (s2 s3 s4 : Sl), ds = B.map (fun p => D.tuple [sD2 p.1, rowD p.2]) ∧ W = A ++ B ∧ (∀ p ∈ A, CF T L loss m p.1) ∧ ρ = [.ow true (lkC Lk C T n a L loss m), .fz (.int 4000), s2, s3, s4]) (fun d ds ρ Kx hK hI => ?_) (fun ρ hI => ?_) ⟨[], W, .un, .un, .un, rfl, rfl, fun p hp => by simp at hp, rfl⟩
  · obtain ⟨A, B, s2, s3, s4, e, hab, hA, rfl⟩ := hI
    cases B with
    | nil => cases e
    | cons p B =>
    cases e
    have hp : p ∈ W := by rw [hab]; simp
    have hpi : IsS T a L m p.1 := hW.is (List.mem_map.mpr ⟨p, hp, rfl⟩)
    bv_omega
    refine open_rows_ok t ha h1 hL hl f hpi (fun hc => ?_) (fun u v u1 v1 u2 v2 e1 e2 => ?_)
    · bv_omega
      refine hK _ ⟨A ++ [p], B, .fz (sD2 p.1), .fz (rowD p.2), .fz .none, rfl, by rw [hab]; simp, fun q hq => ?_, rfl⟩
      rcases List.mem_append.mp hq with hq | hq
      · exact hA q hq
      · rw [List.mem_singleton.mp hq]; exact hc
    · bv_omega
      refine w_ixT (d := rowD u) rfl ?_
      bv_omega
      refine w_ixT (d := rowD v) rfl ?_
      bv_omega
      exact hn p.2 u v fun hr => e2 (right_cf.mp hr p.1 hpi u ((rowsUp_mem loss).mpr ⟨u1, u2⟩) v ((rowsUp_mem loss).mpr ⟨v1, v2⟩) e1)
  · obtain ⟨A, B, s2, s3, s4, e, hab, hA, rfl⟩ := hI
    cases B with
    | cons p B => cases e
    | nil =>
    bv_omega
    rw [List.append_nil] at hab
    subst hab
    refine ho (right_cf.mpr fun σ hσ => ?_)
    obtain ⟨p, hp, rfl⟩ := List.mem_map.mp (hW.closed hg σ hσ)
    exact hA p hp
/-- the least length up to K is told -/
def Least (T : List (List Nat)) (a loss m K : Nat) : D → Prop
  | .none => ∀ L, L ≤ K → ¬ Right T a L loss m
  | d => ∃ L, d = nD L ∧ L ≤ K ∧ Right T a L loss m ∧ ∀ j, j < L → ¬ Right T a j loss m
theorem least_length_ok {T : List (List Nat)} {n a loss m : Nat} (t : Tab T n) (ha : a < n) (h1 : 1 ≤ m) (h9 : m ≤ 9) (hl : loss ≤ 8) (hK : (n - 1) * loss ≤ 12) (f : ∀ L, L ≤ (n - 1) * loss → Few T n L m) (h : ∀ d, Least T a loss m ((n - 1) * loss) d → (d = .none ∨ ∃ L, d = nD L) → R (.d d) [.un, .un, .un, .un, .un]) :
    dc_least_length C Lk Rf Tg Ns [.fz (macD C T n), .fz (nD a), .fz (nD loss), .fz (nD m), .fz (.int 4000)] XX R := by
  have n1 := t.n1
  have n8 := t.n8
  refine di_least_length ?_
  unfold ds_least_length
  bv_omega
  refine ⟨rfl, link_init_ok (L := 0) ha (Nat.zero_le _) hl h1 h9 ?_⟩
  bv_omega
  refine ⟨rfl, ?_⟩
  bv_omega
  refine w_mulI (.inl ⟨by omega, by omega⟩) ?_
  have e0 : ((n : Int) - 1) * (loss : Int) = (((n - 1) * loss : Nat) : Int) := by
    rw [Int.natCast_mul, Int.natCast_sub n1]; rfl
  rw [e0]
  generalize hKe : (n - 1) * loss = K at *
  bv_omega
  refine ⟨⟨by omega, by omega⟩, ?_⟩
  rw [show ((K : Int) + 1).toNat = K + 1 by omega, show rangeD 0 1 (K + 1) = (List.range' 0 (K + 1)).map nD from rangeD1 0 (K + 1)]
  refine forL_go (I := fun ds ρ => ∃ (k j L0 : Nat) (s6 : Sl), ds = (List.range' k j).map nD ∧ k + j = K + 1 ∧ (∀ i, i < k → ¬ Right T a i loss m) ∧ ρ = [.fz (macD C T n), .fz (nD a), .fz (nD loss), .fz (nD m), .fz (.int 4000), .ow false (lkC Lk C T n a L0 loss m), s6]) (fun d ds ρ Kx hKx hI => ?_) (fun ρ hI => ?_) ⟨0, K + 1, 0, .un, rfl, by omega, fun i hi => by omega, rfl⟩
  · obtain ⟨k, j, L0, s6, e, hkj, hno, rfl⟩ := hI
    cases j with
    | zero => cases e
    | succ j =>
    rw [List.range'_succ] at e
    cases e
    bv_omega
    refine ⟨rfl, show 5 < 900 by decide, ?_⟩
    bv_omega
    refine open_paper_ok (L := k) t ha h1 (by omega) hl (f k (by omega)) (fun hr => ?_) (fun w u v hr => ?_)
    · bv_omega
      exact h (nD k) ⟨k, rfl, by omega, hr, hno⟩ (.inr ⟨k, rfl⟩)
    · bv_omega
      refine hKx _ ⟨k + 1, j, k, .fz (nD k), rfl, by omega, fun i hi => ?_, rfl⟩
      by_cases q : i = k
      · rw [q]; exact hr
      · exact hno i (by omega)
  · obtain ⟨k, j, L0, s6, e, hkj, hno, rfl⟩ := hI
    cases j with
    | succ j => rw [List.range'_succ] at e; cases e
    | zero =>
    bv_omega
    exact h .none (fun L hL => hno L (by omega)) (.inl rfl)
end
end DL.K28
set_option Elab.async false
set_option linter.all false
set_option maxRecDepth 100000
set_option maxHeartbeats 4000000
namespace DL.K28
open PySem L2 Evl DL
variable [Tbs]
/-! ### lengths by modulus, how many pages -/
open Classical in
noncomputable def leastD (T : List (List Nat)) (a loss m K : Nat) : D := if h : ∃ L, L ≤ K ∧ Right T a L loss m ∧ ∀ j, j < L → ¬ Right T a j loss m then nD h.choose else .none
theorem leastD_of {T : List (List Nat)} {a loss m K : Nat} {d : D} (h : Least T a loss m K d) (hd : d = .none ∨ ∃ L, d = nD L) : d = leastD T a loss m K := by
  rcases hd with rfl | ⟨L, rfl⟩
  · have h : ∀ L, L ≤ K → ¬ Right T a L loss m := h
    unfold leastD
    rw [dif_neg fun ⟨L, h1, h2, _⟩ => h L h1 h2]
  · obtain ⟨L', e, h1, h2, h3⟩ := (show ∃ L', nD L = nD L' ∧ L' ≤ K ∧ Right T a L' loss m ∧ ∀ j, j < L' → ¬ Right T a j loss m from h)
    have e : L = L' := by injection e with e; omega
    subst e
    have hx : ∃ L, L ≤ K ∧ Right T a L loss m ∧ ∀ j, j < L → ¬ Right T a j loss m := ⟨L, h1, h2, h3⟩
    unfold leastD
    rw [dif_pos hx]
    obtain ⟨_, e1, e2⟩ := hx.choose_spec
    have : hx.choose = L := by
      rcases Nat.lt_trichotomy hx.choose L with z | z | z
      · exact absurd e1 (h3 _ z)
      · exact z
      · exact absurd h2 (e2 _ z)
    rw [this]
noncomputable abbrev curD (T : List (List Nat)) (a loss K : Nat) : D := .tuple ((List.range' 1 (loss + 1)).map fun m => leastD T a loss m K)
section
variable {C Lk Rf Tg Ns : Addr} {XX : Exn → List Sl → Prop} {R : Rv → List Sl → Prop}
/-- links of few deeds -/
structure Lim (T : List (List Nat)) (n loss : Nat) : Prop where
  n4 : n ≤ 4
  t2 : T.length ≤ 2
  l2 : loss ≤ 2
theorem Lim.few {T : List (List Nat)} {n loss : Nat} (h : Lim T n loss) (t : Tab T n) {L m : Nat} (hL : L ≤ 6) (hm : m ≤ 3) : Few T n L m := by
  have h1 := t.t1
  have h2 := h.t2
  have h4 := h.n4
  refine ⟨Nat.le_trans (Nat.mul_le_mul h4 hm) (by decide), ?_⟩
  omega
theorem Lim.far {T : List (List Nat)} {n loss : Nat} (h : Lim T n loss) : (n - 1) * loss ≤ 6 := Nat.le_trans (Nat.mul_le_mul (show n - 1 ≤ 3 by have := h.n4; omega) h.l2) (by decide)
theorem lengths_ok {T : List (List Nat)} {n a loss : Nat} (t : Tab T n) (ha : a < n) (lm : Lim T n loss) (h : R (.d (curD T a loss ((n - 1) * loss))) [.un, .un, .un]) : dc_lengths_by_modulus C Lk Rf Tg Ns [.fz (macD C T n), .fz (nD a), .fz (nD loss)] XX R := by
  have hl := lm.l2
  have hf := lm.far
  refine di_lengths_by_modulus ?_
  unfold ds_lengths_by_modulus
  bv_omega
  refine need_state_ok ha ?_
  bv_omega
  refine need_loss_ok (by omega) ?_
  bv_omega
  refine w_nlc ?_
  bv_omega
  refine ⟨⟨by decide, by decide⟩, ⟨by omega, by omega⟩, ?_⟩
  rw [show ((loss : Int) + 2 - 1).toNat = loss + 1 by omega, show rangeD 1 1 (loss + 1) = (List.range' 1 (loss + 1)).map nD from rangeD1 1 (loss + 1)]
  refine ⟨by rw [List.length_map, List.length_range']; omega, ?_⟩
  refine lcL_map (fun d => match d with
    | .int i => leastD T a loss i.toNat ((n - 1) * loss)
    | _ => .none) (fun d hd K hK => ?_) ?_
  · obtain ⟨m, hm, rfl⟩ := List.mem_map.mp hd
    have hm := List.mem_range'_1.mp hm
    bv_omega
    refine least_length_ok t ha (by omega) (by omega) (by omega) (by omega) (fun L hL => lm.few t (by omega) (by omega)) fun d hd1 hd2 => ?_
    rw [leastD_of hd1 hd2]
    bv_omega
    exact hK _ rfl
  · rw [List.nil_append, List.map_map]
    bv_omega
    refine (show R (.d (.tuple ((List.range' 1 (loss + 1)).map fun m : Nat => leastD T a loss ((m : Int).toNat) ((n - 1) * loss)))) [.un, .un, .un] from ?_)
    simp only [Int.toNat_natCast]
    exact h
theorem lengths_bad_state {T : List (List Nat)} {n : Nat} {d e : D} (hd : Bad 0 ((n : Int) - 1) d) (h : XX ⟨Ns, "state", d⟩ [.un, .un, .un]) : dc_lengths_by_modulus C Lk Rf Tg Ns [.fz (macD C T n), .fz d, .fz e] XX R := by
  refine di_lengths_by_modulus ?_
  unfold ds_lengths_by_modulus
  bv_omega
  refine need_state_bad hd ?_
  bv_omega
  exact h
theorem lengths_bad_loss {T : List (List Nat)} {n a : Nat} {d : D} (ha : a < n) (hd : Bad 0 8 d) (h : XX ⟨Rf, "at", d⟩ [.un, .un, .un]) : dc_lengths_by_modulus C Lk Rf Tg Ns [.fz (macD C T n), .fz (nD a), .fz d] XX R := by
  refine di_lengths_by_modulus ?_
  unfold ds_lengths_by_modulus
  bv_omega
  refine need_state_ok ha ?_
  bv_omega
  refine need_loss_bad hd ?_
  bv_omega
  exact h
theorem rows_count_ok {T : List (List Nat)} {n k : Nat} (t : Tab T n) (hk : k ≤ 8) (h : R (.d (nD (T.length ^ k))) [.un, .un]) : dc_rows_count C Lk Rf Tg Ns [.fz (macD C T n), .fz (nD k)] XX R := by
  refine di_rows_count ?_
  unfold ds_rows_count
  bv_omega
  refine ⟨⟨by omega, by omega⟩, ?_⟩
  rw [Int.toNat_natCast, show rangeD 0 1 k = (List.range' 0 k).map nD from rangeD1 0 k]
  refine forL_go (I := fun ds ρ => ∃ (i j : Nat) (s3 : Sl), ds = (List.range' i j).map nD ∧ i + j = k ∧ ρ = [.fz (macD C T n), .fz (nD k), .fz (nD (T.length ^ i)), s3]) (fun d ds ρ Kx hK hI => ?_) (fun ρ hI => ?_) ⟨0, k, .un, rfl, by omega, rfl⟩
  · obtain ⟨i, j, s3, e, hij, rfl⟩ := hI
    cases j with
    | zero => cases e
    | succ j =>
    rw [List.range'_succ] at e
    cases e
    have h1 := pow_le t.t4 (show i ≤ 8 by omega)
    have h4 := t.t4
    bv_omega
    refine w_mulI (.inl ⟨by omega, by omega⟩) ?_
    bv_omega
    refine hK _ ⟨i + 1, j, .fz (nD i), rfl, by omega, ?_⟩
    have : ((T.length ^ i : Nat) : Int) * (T.length : Int) = ((T.length ^ (i + 1) : Nat) : Int) := by rw [Nat.pow_succ, Int.natCast_mul]
    rw [this]
    rfl
  · obtain ⟨i, j, s3, e, hij, rfl⟩ := hI
    cases j with
    | succ j => rw [List.range'_succ] at e; cases e
    | zero =>
    bv_omega
    have : i = k := by omega
    subst this
    exact h
theorem asInts_nD : ∀ ns : List Nat, asInts (ns.map nD) = some (ns.map fun x : Nat => (x : Int))
  | [] => rfl
  | x :: ns => by
    rw [List.map_cons, asInts, asInts_nD ns]
    rfl
theorem sum_pows (t : Nat) : ∀ L, (((List.range' 0 L).map fun k => ((t ^ k : Nat) : Int))).sum = (psum t L : Nat)
  | 0 => rfl
  | L + 1 => by
    rw [List.range'_concat, List.map_append, List.sum_append, sum_pows t L]
    simp [psum]
theorem page_count_ok {T : List (List Nat)} {n a L loss m : Nat} (t : Tab T n) (hL : L ≤ 8) (hm : m ≤ 9) (h : R (.d (nD (psum T.length L + m * T.length ^ L))) [.un]) : dc_page_count C Lk Rf Tg Ns [.fz (lkD Lk C T n a L loss m)] XX R := by
  have h1 := pow_le t.t4 hL
  refine di_page_count ?_
  unfold ds_page_count
  bv_omega
  refine w_nlc ?_
  bv_omega
  refine ⟨⟨by omega, by omega⟩, ?_⟩
  rw [Int.toNat_natCast, show rangeD 0 1 L = (List.range' 0 L).map nD from rangeD1 0 L]
  refine ⟨by rw [List.length_map, List.length_range']; omega, ?_⟩
  refine lcL_map (fun d => match d with
    | .int i => nD (T.length ^ i.toNat)
    | _ => .none) (fun d hd K hK => ?_) ?_
  · obtain ⟨k, hk, rfl⟩ := List.mem_map.mp hd
    have hk := List.mem_range'_1.mp hk
    bv_omega
    refine rows_count_ok t (by omega) ?_
    bv_omega
    exact hK _ rfl
  · rw [List.nil_append, List.map_map]
    bv_omega
    have e : ((List.range' 0 L).map ((fun d : D => match d with
      | .int i => nD (T.length ^ i.toNat)
      | _ => .none) ∘ nD)) = ((List.range' 0 L).map fun k => T.length ^ k).map nD := by
      rw [List.map_map]
      rfl
    rw [e]
    refine w_sum (asInts_nD _) ?_
    rw [List.map_map, show (List.map ((fun x : Nat => (x : Int)) ∘ fun k => T.length ^ k) (List.range' 0 L)).sum = (psum T.length L : Nat) from sum_pows _ L]
    bv_omega
    refine rows_count_ok t hL ?_
    bv_omega
    refine w_mulI (.inl ⟨by omega, by omega⟩) ?_
    bv_omega
    have : ((psum T.length L : Nat) : Int) + (m : Int) * ((T.length ^ L : Nat) : Int) = ((psum T.length L + m * T.length ^ L : Nat) : Int) := by rw [Int.natCast_add, Int.natCast_mul]
    rw [this]
    exact h
end
end DL.K28
set_option Elab.async false
set_option linter.all false
set_option maxRecDepth 100000
set_option maxHeartbeats 4000000
namespace DL.K28
open PySem L2 Evl DL
variable [Tbs]
section
variable {C Lk Rf Tg Ns : Addr} {XX : Exn → List Sl → Prop} {R : Rv → List Sl → Prop}
/-! ### machines of lists; the law's walks -/
theorem is_sequence_lst {xs : List D} (h : R (.d (.bool true)) [.un]) : dc_is_sequence C Lk Rf Tg Ns [.fz (.list xs)] XX R := by
  refine di_is_sequence ?_
  unfold ds_is_sequence
  bv_omega
  refine w_ofS isTy2_lst ?_
  bv_omega
  exact h
theorem check_lists_ok {T : List (List Nat)} {n : Nat} (t : Tab T n) (h : R (.d (tabD T)) [.un]) : dc_check_tables C Lk Rf Tg Ns [.fz (tabL T)] XX R := by
  obtain ⟨r0, x0, hr0, _, _, hl0⟩ := t.at (d := 0) (s := 0) (by have := t.t1; omega) (by have := t.n1; omega)
  have h1 := t.t1
  have h2 := t.t4
  have h3 := t.n1
  have h4 := t.n8
  refine di_check_tables ?_
  unfold ds_check_tables
  bv_omega
  refine is_sequence_lst ?_
  bv_omega
  have e1 : decide ((1 : Int) ≤ ((T.map rowD).length : Int)) = true := decide_eq_true (by simp; omega)
  have e2 : decide (((T.map rowD).length : Int) ≤ 4) = true := decide_eq_true (by simp; omega)
  have a0 : atI (T.map rowD) ((0 : Nat) : Int) = some (rowD r0) := atI_map T rowD hr0
  refine w_iteT' e1 ?_
  bv_omega
  rw [e2]
  bv_omega
  refine w_ixL a0 ?_
  bv_omega
  refine is_sequence_tup ?_
  bv_omega
  refine w_ixL a0 ?_
  bv_omega
  have nk : ∀ {d : D} {ds : List D} {k : Nat} {rest : List (List Nat)}, d :: ds = enumD k (rest.map rowD) → ∃ r rest', rest = r :: rest' ∧ d = .tuple [nD k, rowD r] ∧ ds = enumD (k + 1) (rest'.map rowD) := fun {d ds k rest} e => by
    cases rest with
    | nil => cases e
    | cons r rest' => cases e; exact ⟨r, rest', rfl, rfl, rfl⟩
  refine forL_go (I := fun ds ρ => ∃ (k : Nat) (rest : List (List Nat)) (s2 s3 : Sl), ds = enumD k (rest.map rowD) ∧ (∀ r ∈ rest, r ∈ T) ∧ ρ = [.fz (tabL T), .fz (nD n), s2, s3]) (fun d ds ρ Kx hK hI => ?_) (fun ρ hI => ?_) ⟨0, T, .un, .un, rfl, fun r h => h, by rw [← hl0, List.length_map]; rfl⟩
  · obtain ⟨k, rest, s2, s3, e, hr, rfl⟩ := hI
    obtain ⟨r, rest', rfl, rfl, rfl⟩ := nk e
    have hrT := hr r (by simp)
    bv_omega
    refine w_iteT' (decide_eq_true (by omega)) ?_
    bv_omega
    rw [decide_eq_true (show (n : Int) ≤ 8 by omega)]
    bv_omega
    refine is_table_ok (t.len r hrT) (by omega) (t.lt r hrT) ?_
    bv_omega
    exact hK _ ⟨k + 1, rest', _, _, rfl, fun x hx => hr x (by simp [hx]), rfl⟩
  · obtain ⟨k, rest, s2, s3, e, hr, rfl⟩ := hI
    bv_omega
    refine w_nlc ?_
    bv_omega
    refine ⟨by simp; omega, ?_⟩
    refine lcL_map (fun d => d) (fun d hd K hK => ?_) ?_
    · obtain ⟨r, hr, rfl⟩ := List.mem_map.mp hd
      bv_omega
      exact hK _ rfl
    · rw [List.nil_append, List.map_id']
      bv_omega
      exact h
theorem init_list_ok {T : List (List Nat)} {n : Nat} (t : Tab T n) (h : R (.d .none) [.ow true (.ins C lay_Machine [tabD T, nD T.length, nD n]), .un]) : dc_Machine___init__ C Lk Rf Tg Ns [.ow true (.ins C [] []), .fz (tabL T)] XX R := by
  obtain ⟨r0, x0, hr0, _, _, hl0⟩ := t.at (d := 0) (s := 0) (by have := t.t1; omega) (by have := t.n1; omega)
  have a0 : atI (T.map rowD) ((0 : Nat) : Int) = some (rowD r0) := atI_map T rowD hr0
  refine di_Machine___init__ ?_
  unfold ds_Machine___init__
  bv_omega
  refine check_lists_ok t ?_
  bv_omega
  refine ⟨rfl, by decide, ?_⟩
  bv_omega
  refine w_ofS (x := tabD T) rfl ?_
  bv_omega
  refine ⟨rfl, Nat.lt_of_le_of_lt fldPut_len (by decide), ?_⟩
  bv_omega
  refine w_ofS (x := tabD T) rfl ?_
  bv_omega
  refine w_ixT a0 ?_
  bv_omega
  refine ⟨rfl, Nat.lt_of_le_of_lt fldPut_len (Nat.lt_of_le_of_lt (Nat.succ_le_succ fldPut_len) (by decide)), ?_⟩
  bv_omega
  rw [List.length_map, List.length_map, hl0]
  exact h
theorem led_ok {T : List (List Nat)} {n s : Nat} {row : List Nat} (t : Tab T n) (hs : s < n) (hr : Row T row) (h : R (.d (nD (run T s row))) [.un, .un, .un]) : dc__law_led C Lk Rf Tg Ns [.fz (tabL T), .fz (nD s), .fz (rowD row)] XX R := by
  refine di__law_led ?_
  unfold ds__law_led
  bv_omega
  refine forL_go (I := fun ds ρ => ∃ (rest : List Nat) (s' : Nat) (s3 : Sl), ds = rest.map nD ∧ Row T rest ∧ s' < n ∧ run T s' rest = run T s row ∧ ρ = [.fz (tabL T), .fz (nD s'), .fz (rowD row), s3]) (fun d ds ρ Kx hK hI => ?_) (fun ρ hI => ?_) ⟨row, s, .un, rfl, hr, hs, rfl, rfl⟩
  · obtain ⟨rest, s', s3, e, hr, hs', hrun, rfl⟩ := hI
    cases rest with
    | nil => cases e
    | cons x rest =>
    cases e
    obtain ⟨r, a1, a2, a3⟩ := stp_at t (hr x (by simp)) hs'
    bv_omega
    refine w_ixL (atI_map T rowD a1) ?_
    bv_omega
    refine w_ixT (atI_map r nD a2) ?_
    bv_omega
    exact hK _ ⟨rest, stp T x s', .fz (nD x), rfl, fun y hy => hr y (by simp [hy]), a3, hrun, rfl⟩
  · obtain ⟨rest, s', s3, e, hr, hs', hrun, rfl⟩ := hI
    cases rest with
    | cons x rest => cases e
    | nil =>
    bv_omega
    rw [show s' = run T s row from hrun]
    exact h
theorem law_rows_ok {T : List (List Nat)} {n k : Nat} (t : Tab T n) (hk : k ≤ 8) (h : R (.d (.list ((rowsN T k).map rowD))) [.un, .un]) : dc__law_rows C Lk Rf Tg Ns [.fz (nD T.length), .fz (nD k)] XX R := by
  have t4 := t.t4
  refine di__law_rows ?_
  unfold ds__law_rows
  bv_omega
  refine ⟨⟨by omega, by omega⟩, ?_⟩
  rw [Int.toNat_natCast, show rangeD 0 1 k = (List.range' 0 k).map nD from rangeD1 0 k]
  refine forL_go (I := fun ds ρ => ∃ (i j : Nat) (s2 s3 s4 s5 : Sl), ds = (List.range' i j).map nD ∧ i + j = k ∧ Two s2 (.lst ((rowsN T i).map rowD)) ∧ ρ = [.fz (nD T.length), .fz (nD k), s2, s3, s4, s5, .un]) (fun d ds ρ Kx hK hI => ?_) (fun ρ hI => ?_) ⟨0, k, .ow false (.lst [rowD []]), .un, .un, .un, rfl, by omega, .inl rfl, rfl⟩
  · obtain ⟨i, j, s2, s3, s4, s5, e, hij, h2, rfl⟩ := hI
    cases j with
    | zero => cases e
    | succ j =>
    rw [List.range'_succ] at e
    cases e
    have hsm := rows_small t (show i + 1 ≤ 8 by omega)
    bv_omega
    refine w_varB (i := 2) h2 ?_
    bv_omega
    refine forL_go (I := fun ds ρ => ∃ (A B : List (List Nat)) (s4 s5 : Sl), ds = B.map rowD ∧ rowsN T i = A ++ B ∧ Two s4 (.lst ((ext T A).map rowD)) ∧ ρ = [.fz (nD T.length), .fz (nD k), .fz (.list ((rowsN T i).map rowD)), .fz (nD i), s4, s5, .un]) (fun d ds ρ Ky hKy hJ => ?_) (fun ρ hJ => ?_) ⟨[], rowsN T i, .ow false (.lst []), s5, rfl, rfl, .inl rfl, rfl⟩
    · obtain ⟨A, B, s4, s5, e, hab, h4, rfl⟩ := hJ
      cases B with
      | nil => cases e
      | cons r B =>
      cases e
      have hrl : r.length = i := rowsN_rowlen i r (by rw [hab]; simp)
      have hle : ((ext T A) ++ blockR T r).length ≤ 65536 := by
        have e1 : (rowsN T (i + 1)) = ext T A ++ (blockR T r ++ ext T B) := by
          show ext T (rowsN T i) = _
          rw [hab, ext_app]; rfl
        rw [e1] at hsm
        simp only [List.length_append] at hsm ⊢
        omega
      have hbl : (blockR T r).length = T.length := by simp [blockR]
      bv_omega
      refine w_varB (i := 4) h4 ?_
      bv_omega
      refine w_nlc ?_
      bv_omega
      refine ⟨⟨by omega, by omega⟩, ?_⟩
      rw [Int.toNat_natCast, show rangeD 0 1 T.length = (List.range' 0 T.length).map nD from rangeD1 0 T.length]
      refine ⟨by rw [List.length_map, List.length_range']; omega, ?_⟩
      refine lcL_map (fun d => D.tuple (r.map nD ++ [d])) (fun d hd K hK => ?_) ?_
      · obtain ⟨x, hx, rfl⟩ := List.mem_map.mp hd
        bv_omega
        refine w_addT (big (by rw [List.length_map]; simp; omega)) ?_
        exact hK _ rfl
      · rw [List.nil_append, blk_map]
        bv_omega
        refine w_addL (big (by rw [← List.length_append, ← List.map_append, List.length_map]; omega)) ?_
        rw [← List.map_append]
        bv_omega
        refine hKy _ ⟨A ++ [r], B, .fz (.list ((ext T A ++ blockR T r).map rowD)), .fz (rowD r), rfl, by rw [hab]; simp, .inr ?_, rfl⟩
        rw [ext_app, ext_one]
        rfl
    · obtain ⟨A, B, s4, s5, e, hab, h4, rfl⟩ := hJ
      cases B with
      | cons r B => cases e
      | nil =>
      have hA : A = rowsN T i := by rw [hab]; simp
      subst hA
      bv_omega
      refine w_varB (i := 4) h4 ?_
      bv_omega
      exact hK _ ⟨i + 1, j, .fz (.list ((rowsN T (i + 1)).map rowD)), .fz (nD i), .fz (.list ((rowsN T (i + 1)).map rowD)), s5, rfl, by omega, .inr rfl, rfl⟩
  · obtain ⟨i, j, s2, s3, s4, s5, e, hij, h2, rfl⟩ := hI
    cases j with
    | succ j => rw [List.range'_succ] at e; cases e
    | zero =>
    bv_omega
    refine w_varB (i := 2) h2 ?_
    bv_omega
    have : i = k := by omega
    subst this
    exact h
end
end DL.K28
set_option Elab.async false
set_option linter.all false
set_option maxRecDepth 100000
set_option maxHeartbeats 4000000
namespace DL.K28
open PySem L2 Evl DL
variable [Tbs]
/-! ### the law's own test of rightness -/
abbrev lsD (σ : Sight) : D := .tuple [nD σ.1, rowD σ.2.1]
def lKey (σ : Sight) : NestedKey := .tup [.num (σ.1 : Int), nkR σ.2.1]
theorem lKey_of (σ : Sight) : D.nkT (lsD σ) = some (lKey σ) := by
  have h : nksOf [nD σ.1, rowD σ.2.1] = some [.num (σ.1 : Int), nkR σ.2.1] := by
    show (D.nk (nD σ.1)).bind (fun k => ((D.nk (rowD σ.2.1)).bind fun k => (some ([] : List NestedKey)).map (k :: ·)).map (k :: ·)) = _
    rw [nk_row]; rfl
  show (nksOf [nD σ.1, rowD σ.2.1]).bind _ = _
  rw [h]
  show (if (lKey σ).depth ≤ 8 then some (lKey σ) else none) = _
  rw [if_pos]
  unfold lKey
  simp [NestedKey.depth, NestedKey.depthAll, dep_nkR]
theorem IsS.one {T : List (List Nat)} {a L : Nat} {σ : Sight} (h : IsS T a L 1 σ) : σ.2.2 = 0 := by
  obtain ⟨w, _, rfl⟩ := h
  exact Nat.mod_one _
theorem lKey_inj {T : List (List Nat)} {a L : Nat} {σ τ : Sight} (h1 : IsS T a L 1 σ) (h2 : IsS T a L 1 τ) (h : lKey σ = lKey τ) : σ = τ := by
  have e1 := h1.one
  have e2 := h2.one
  obtain ⟨s, r, q⟩ := σ
  obtain ⟨s', r', q'⟩ := τ
  unfold lKey at h
  injection h with h
  injection h with h1 h
  injection h with h2 _
  injection h1 with h1
  have h1 : (s : Int) = s' := h1
  have e3 : r = r' := nkR_inj h2
  have e1 : q = 0 := e1
  have e2 : q' = 0 := e2
  rw [show s = s' by omega, e3, e1, e2]
def metD (S : List Sight) : List (NestedKey × D) := S.map fun σ => (lKey σ, D.bool true)
theorem metD_is {T : List (List Nat)} {a L : Nat} {σ : Sight} (h : IsS T a L 1 σ) : ∀ {S : List Sight}, (∀ τ ∈ S, IsS T a L 1 τ) → (dVal (metD S) (lKey σ)).isSome = decide (σ ∈ S)
  | [], _ => by simp [metD, dVal]
  | τ :: S, hS => by
    by_cases z : lKey τ = lKey σ
    · have e := lKey_inj (hS τ (by simp)) h z
      rw [decide_eq_true (show σ ∈ τ :: S by rw [e]; simp)]
      simp [dVal, metD, List.find?_cons, z]
    · have : dVal (metD (τ :: S)) (lKey σ) = dVal (metD S) (lKey σ) := by simp [dVal, metD, List.find?_cons, z]
      rw [this, metD_is h fun τ hτ => hS τ (by simp [hτ])]
      have hne : σ ≠ τ := fun q => z (by rw [q])
      simp [hne]
/-- the key of a page in the law -/
def kO (L m : Nat) (d u : List Nat) : Option Nat := if (lastN L (d ++ u)).length = L then some (u.length % m) else none
def kN (o : Option Nat) : NestedKey := match o with
  | some q => .num (q : Int)
  | none => .none
def kD (o : Option Nat) : D := match o with
  | some q => nD q
  | none => .none
def qKey (L m : Nat) (d u : List Nat) : NestedKey := .tup [nkR (lastN L (d ++ u)), kN (kO L m d u)]
theorem kN_inj {o o' : Option Nat} (h : kN o = kN o') : o = o' := by
  cases o <;> cases o'
  · rfl
  · cases h
  · cases h
  · rename_i x y
    have h : NestedKey.num (x : Int) = .num (y : Int) := h
    injection h with h
    have h : (x : Int) = y := h
    rw [show x = y by omega]
theorem qKey_of (L m : Nat) (d u : List Nat) : D.nkT (.tuple [rowD (lastN L (d ++ u)), kD (kO L m d u)]) = some (qKey L m d u) := by
  have hk : ∀ o, D.nk (kD o) = some (kN o) := fun o => by cases o <;> rfl
  have h : nksOf [rowD (lastN L (d ++ u)), kD (kO L m d u)] = some [nkR (lastN L (d ++ u)), kN (kO L m d u)] := by
    show (D.nk (rowD (lastN L (d ++ u)))).bind (fun k => ((D.nk (kD (kO L m d u))).bind fun k => (some ([] : List NestedKey)).map (k :: ·)).map (k :: ·)) = _
    rw [nk_row, hk]; rfl
  show (nksOf [rowD (lastN L (d ++ u)), kD (kO L m d u)]).bind _ = _
  rw [h]
  show (if (qKey L m d u).depth ≤ 8 then some (qKey L m d u) else none) = _
  rw [if_pos]
  unfold qKey
  cases kO L m d u <;> simp [NestedKey.depth, NestedKey.depthAll, dep_nkR, kN]
def CK (T : List (List Nat)) (L loss m s : Nat) (d : List Nat) : Prop := ∀ u ∈ rowsUp T loss, ∀ v ∈ rowsUp T loss, qKey L m d u = qKey L m d v → run T s u = run T s v
theorem mod_cancel {q x y m : Nat} (h : (q + x) % m = (q + y) % m) : x % m = y % m := by
  have key : ∀ x y : Nat, x ≤ y → (q + x) % m = (q + y) % m → x % m = y % m := fun x y hxy h => by
    have := Nat.sub_mod_eq_zero_of_mod_eq h.symm
    rw [show q + y - (q + x) = y - x by omega] at this
    obtain ⟨t, ht⟩ := Nat.dvd_of_mod_eq_zero this
    rw [show y = x + m * t by omega, Nat.add_mul_mod_self_left]
  rcases Nat.le_total x y with z | z
  · exact key x y z h
  · exact (key y x z h.symm).symm
theorem ck_cf {T : List (List Nat)} {L loss m s : Nat} {d : List Nat} {q : Nat} : CK T L loss m s d ↔ CF T L loss m (s, d, q) := by
  constructor
  · intro h u hu v hv e
    refine h u hu v hv ?_
    have e : (lastN L (d ++ u), (q + u.length) % m) = (lastN L (d ++ v), (q + v.length) % m) := e
    injection e with e1 e2
    have e3 := mod_cancel e2
    unfold qKey kO
    rw [e1, e3]
  · intro h u hu v hv e
    unfold qKey at e
    injection e with e
    injection e with e1 e
    injection e with e2 _
    have e1 := nkR_inj e1
    have e2 := kN_inj e2
    by_cases z : (lastN L (d ++ u)).length = L
    · refine h u hu v hv ?_
      unfold kO at e2
      rw [if_pos z, if_pos (by rw [← e1]; exact z)] at e2
      injection e2 with e2
      show (lastN L (d ++ u), (q + u.length) % m) = (lastN L (d ++ v), (q + v.length) % m)
      rw [e1, Nat.add_mod, e2, ← Nat.add_mod]
    · have l1 := lastN_len L (d ++ u)
      have l2 := lastN_len L (d ++ v)
      have z2 : ¬ (lastN L (d ++ v)).length = L := by rw [← e1]; exact z
      rw [lastN_all (w := d ++ u) (by omega), lastN_all (w := d ++ v) (by omega)] at e1
      rw [List.append_cancel_left e1]
theorem right_ck {T : List (List Nat)} {a L loss m : Nat} : Right T a L loss m ↔ ∀ σ, IsS T a L 1 σ → CK T L loss m σ.1 σ.2.1 := by
  rw [right_cf]
  constructor
  · rintro h _ ⟨w, hw, rfl⟩
    exact ck_cf.mpr (h (sOf T a L m w) ⟨w, hw, rfl⟩)
  · rintro h _ ⟨w, hw, rfl⟩
    exact ck_cf.mp (h (sOf T a L 1 w) ⟨w, hw, rfl⟩)
/-- what stands in the dict of pages -/
structure Tld (T : List (List Nat)) (L m s : Nat) (d : List Nat) (A : List (List Nat)) (E : List (NestedKey × D)) : Prop where
  has : ∀ u ∈ A, dVal E (qKey L m d u) = some (nD (run T s u))
  from_ : ∀ k x, dVal E k = some x → ∃ u ∈ A, qKey L m d u = k ∧ x = nD (run T s u)
  len : E.length ≤ A.length
section
variable {T : List (List Nat)} {n a L loss m s : Nat} {d : List Nat}
theorem Tld.nil : Tld T L m s d [] [] := ⟨fun u hu => by simp at hu, fun k x h => by simp [dVal] at h, Nat.le_refl _⟩
theorem Tld.old {A : List (List Nat)} {E : List (NestedKey × D)} (h : Tld T L m s d A E) {u : List Nat} (e : dVal E (qKey L m d u) = some (nD (run T s u))) : Tld T L m s d (A ++ [u]) E :=
  ⟨fun v hv => by
    rcases List.mem_append.mp hv with hv | hv
    · exact h.has v hv
    · rw [List.mem_singleton.mp hv]; exact e, fun k x hx => by
    obtain ⟨v, hv, e1, e2⟩ := h.from_ k x hx
    exact ⟨v, List.mem_append_left _ hv, e1, e2⟩, by have := h.len; simp; omega⟩
theorem Tld.new {A : List (List Nat)} {E : List (NestedKey × D)} (h : Tld T L m s d A E) {u : List Nat} (e : dVal E (qKey L m d u) = none) : Tld T L m s d (A ++ [u]) (dPut E (qKey L m d u) (nD (run T s u))) := by
  rw [dVal_new e]
  refine ⟨fun v hv => ?_, fun k x hx => ?_, by have := h.len; simp; omega⟩
  · rw [dVal_app e]
    by_cases z : qKey L m d v = qKey L m d u
    · rw [if_pos z]
      rcases List.mem_append.mp hv with hv | hv
      · have := h.has v hv
        rw [z, e] at this; cases this
      · rw [List.mem_singleton.mp hv]
    · rw [if_neg z]
      rcases List.mem_append.mp hv with hv | hv
      · exact h.has v hv
      · rw [List.mem_singleton.mp hv] at z; exact absurd rfl z
  · rw [dVal_app e] at hx
    by_cases z : k = qKey L m d u
    · rw [if_pos z] at hx
      cases hx
      exact ⟨u, List.mem_append_right _ (List.mem_singleton.mpr rfl), z.symm, rfl⟩
    · rw [if_neg z] at hx
      obtain ⟨v, hv, e1, e2⟩ := h.from_ k x hx
      exact ⟨v, List.mem_append_left _ hv, e1, e2⟩
theorem Tld.ck {E : List (NestedKey × D)} (h : Tld T L m s d (rowsUp T loss) E) : CK T L loss m s d := fun u hu v hv e => by
  have h1 := h.has u hu
  have h2 := h.has v hv
  rw [e, h2] at h1
  injection h1 with h1
  injection h1 with h1
  omega
theorem rowsUp_few (t2 : T.length ≤ 2) : ∀ k, k ≤ 2 → (rowsUp T k).length ≤ 7 := by
  have p1 : T.length ^ 1 ≤ 2 := by rw [Nat.pow_one]; exact t2
  have p2 : T.length ^ 2 ≤ 4 := by rw [Nat.pow_two]; exact Nat.mul_le_mul t2 t2
  intro k hk
  match k, hk with
  | 0, _ => show (1 : Nat) ≤ 7; decide
  | 1, _ =>
    show ([[]] ++ rowsN T 1).length ≤ 7
    rw [List.length_append, rowsN_len]; simp at p1 ⊢; omega
  | 2, _ =>
    show (([[]] ++ rowsN T 1) ++ rowsN T 2).length ≤ 7
    rw [List.length_append, List.length_append, rowsN_len, rowsN_len]
    simp only [List.length_singleton]
    omega
end
def rU (T : List (List Nat)) : Nat → List (List Nat)
  | 0 => []
  | k + 1 => rowsUp T k
theorem rU_next (T : List (List Nat)) : ∀ k, rU T k ++ rowsN T k = rU T (k + 1)
  | 0 => rfl
  | _ + 1 => rfl
end DL.K28
set_option Elab.async false
set_option linter.all false
set_option maxRecDepth 100000
set_option maxHeartbeats 4000000
namespace DL.K28
open PySem L2 Evl DL
variable [Tbs]
section
variable {C Lk Rf Tg Ns : Addr} {XX : Exn → List Sl → Prop} {R : Rv → List Sl → Prop}
theorem metD_app (S : List Sight) (σ : Sight) : metD (S ++ [σ]) = metD S ++ [(lKey σ, D.bool true)] := by unfold metD; rw [List.map_append]; rfl
theorem law_right_ok {T : List (List Nat)} {n a L loss m : Nat} (t : Tab T n) (ha : a < n) (lm : Lim T n loss) (h1 : 1 ≤ m) (h9 : m ≤ 9) (hL : L ≤ 6) (h : ∀ b, (b = true ↔ Right T a L loss m) → R (.d (.bool b)) [.un, .un, .un, .un, .un]) :
    dc__law_right C Lk Rf Tg Ns [.fz (tabL T), .fz (nD a), .fz (nD L), .fz (nD loss), .fz (nD m)] XX R := by
  have ht2 := lm.t2
  have hl2 := lm.l2
  have f : Few T n L 1 := lm.few t hL (by decide)
  have hup := rowsUp_few ht2 loss hl2
  refine di__law_right ?_
  unfold ds__law_right
  bv_omega
  refine ⟨rfl, ?_⟩
  bv_omega
  rw [List.length_map]
  refine ⟨⟨by omega, by omega⟩, ?_⟩
  rw [show ((loss : Int) + 1).toNat = loss + 1 by omega, show rangeD 0 1 (loss + 1) = (List.range' 0 (loss + 1)).map nD from rangeD1 0 (loss + 1)]
  refine forL_go (I := fun ds ρ => ∃ (k j : Nat) (s5 s6 : Sl), ds = (List.range' k j).map nD ∧ k + j = loss + 1 ∧ Two s5 (.lst ((rU T k).map rowD)) ∧ ρ = [.fz (tabL T), .fz (nD a), .fz (nD L), .fz (nD loss), .fz (nD m), s5, s6, .un, .fz (nD T.length), .ow false (.lst [lsD (a, [], 0)]), .ow false (.dctN (metD [(a, [], 0)])), .un, .un, .un, .un, .un, .un, .un, .un, .un]) (fun d ds ρ Kx hK hI => ?_) (fun ρ hI => ?_) ⟨0, loss + 1, .ow false (.lst []), .un, rfl, by omega, .inl rfl, rfl⟩
  · obtain ⟨k, j, s5, s6, e, hkj, h5, rfl⟩ := hI
    cases j with
    | zero => cases e
    | succ j =>
    rw [List.range'_succ] at e
    cases e
    have hu1 := rowsUp_few ht2 k (by omega)
    bv_omega
    refine w_varB (i := 5) h5 ?_
    bv_omega
    refine law_rows_ok t (by omega) ?_
    bv_omega
    have e1 := rU_next T k
    have e2 : (rU T k).length + (rowsN T k).length ≤ 7 := by
      rw [← List.length_append, e1]; exact hu1
    refine w_addL (big (by rw [List.length_map, List.length_map]; omega)) ?_
    rw [← List.map_append, e1]
    bv_omega
    exact hK _ ⟨k + 1, j, .fz (.list ((rU T (k + 1)).map rowD)), .fz (nD k), rfl, by omega, .inr rfl, rfl⟩
  · obtain ⟨k, j, s5, s6, e, hkj, h5, rfl⟩ := hI
    cases j with
    | succ j => rw [List.range'_succ] at e; cases e
    | zero =>
    have hk : k = loss + 1 := by omega
    subst hk
    have h5 : Two s5 (.lst ((rowsUp T loss).map rowD)) := h5
    bv_omega
    refine ⟨⟨by decide, by decide⟩, ?_⟩
    rw [show rangeD 0 1 ((4000 : Int)).toNat = (List.range' 0 4000).map nD from rangeD1 0 4000]
    refine forL_go (I := fun ds ρ => ∃ (i j : Nat) (S : List Sight) (s5 s7 s11 s12 s13 s14 s15 s16 s17 s18 s19 : Sl), ds = (List.range' i j).map nD ∧ i + j = 4000 ∧ S.Nodup ∧ (∀ τ ∈ S, IsS T a L 1 τ) ∧ (a, [], 0) ∈ S ∧ i ≤ S.length ∧ (∀ x τ, x < i → S[x]? = some τ → CK T L loss m τ.1 τ.2.1 ∧ ∀ z, z < T.length → sNext T L 1 τ z ∈ S) ∧ Two s5 (.lst ((rowsUp T loss).map rowD)) ∧
      ρ = [.fz (tabL T), .fz (nD a), .fz (nD L), .fz (nD loss), .fz (nD m), s5, s6, s7, .fz (nD T.length), .ow false (.lst (S.map lsD)), .ow false (.dctN (metD S)), s11, s12, s13, s14, s15, s16, s17, s18, s19]) (fun d ds ρ Ky hKy hJ => ?_) (fun ρ hJ => ?_) ⟨0, 4000, [(a, [], 0)], s5, .un, .un, .un, .un, .un, .un, .un, .un, .un, .un, rfl, rfl, by simp, fun τ hτ => by rw [List.mem_singleton.mp hτ]; exact IsS.start, List.mem_singleton.mpr rfl, Nat.zero_le _, fun x τ hx => by omega, h5, rfl⟩
    · obtain ⟨i, j, S, s5, s7, s11, s12, s13, s14, s15, s16, s17, s18, s19, e, hij, nd, hS, h0, hi, hdone, h5, rfl⟩ := hJ
      cases j with
      | zero => cases e
      | succ j =>
      rw [List.range'_succ] at e
      cases e
      have hS9 := sights_few t ha (by decide) f nd hS
      bv_omega
      refine w_lenS rfl (by rw [List.length_map]; omega) ?_
      bv_omega
      rw [List.length_map]
      by_cases q : i = S.length
      · refine w_iteT' (decide_eq_true (by omega)) ?_
        bv_omega
        refine h true ⟨fun _ => right_ck.mpr fun σ hσ => ?_, fun _ => rfl⟩
        obtain ⟨w, hw, rfl⟩ := hσ
        have hm : sOf T a L 1 w ∈ S := closed_all h0 (fun τ hτ x hx => by
          obtain ⟨y, hy⟩ := List.mem_iff_getElem?.mp hτ
          have := (List.getElem?_eq_some_iff.mp hy).1
          exact (hdone y τ (by omega) hy).2 x hx) _ w rfl hw
        obtain ⟨y, hy⟩ := List.mem_iff_getElem?.mp hm
        have := (List.getElem?_eq_some_iff.mp hy).1
        exact (hdone y _ (by omega) hy).1
      · refine w_iteF' (decide_eq_false (by omega)) ?_
        have hiS : i < S.length := by omega
        obtain ⟨σ, hσ⟩ : ∃ σ, S[i]? = some σ := ⟨S[i], by simp [hiS]⟩
        have hσm : σ ∈ S := List.mem_of_getElem? hσ
        have hσS := hS σ hσm
        have hσn := hσS.lt t ha
        obtain ⟨hσr, hσL⟩ := hσS.row
        bv_omega
        refine ⟨lsD σ, atI_map S lsD hσ, ?_⟩
        bv_omega
        refine w_varB (i := 5) h5 ?_
        bv_omega
        refine forL_go (I := fun ds ρ => ∃ (A B : List (List Nat)) (E : List (NestedKey × D)) (s12 s16 s17 s18 : Sl), ds = B.map rowD ∧ rowsUp T loss = A ++ B ∧ Tld T L m σ.1 σ.2.1 A E ∧
          ρ = [.fz (tabL T), .fz (nD a), .fz (nD L), .fz (nD loss), .fz (nD m), .fz (.list ((rowsUp T loss).map rowD)), s6, .fz (nD i), .fz (nD T.length), .ow false (.lst (S.map lsD)), .ow false (.dctN (metD S)), .ow false (.dctN E), s12, s13, .fz (nD σ.1), .fz (rowD σ.2.1), s16, s17, s18, s19]) (fun d ds ρ Kz hKz hZ => ?_) (fun ρ hZ => ?_) ⟨[], rowsUp T loss, [], s12, s16, s17, s18, rfl, rfl, Tld.nil, rfl⟩
        · obtain ⟨A, B, E, s12, s16, s17, s18, e, hab, hE, rfl⟩ := hZ
          cases B with
          | nil => cases e
          | cons u B =>
          cases e
          have hum : u ∈ rowsUp T loss := by rw [hab]; simp
          obtain ⟨hur, hul⟩ := (rowsUp_mem loss).mp hum
          have hAl : A.length ≤ 7 := by rw [hab, List.length_append] at hup; omega
          have hElen := hE.len
          bv_omega
          refine w_addT (big (by rw [List.length_map, List.length_map]; omega)) ?_
          rw [← List.map_append]
          bv_omega
          refine w_addT (big (by rw [List.length_map, List.length_map]; omega)) ?_
          rw [← List.map_append]
          bv_omega
          rw [cut_last (w := σ.2.1 ++ u) (L := L) (by rw [List.length_map])]
          bv_omega
          rw [List.length_map]
          by_cases z0 : (lastN L (σ.2.1 ++ u)).length = L
          · refine w_iteT' (decide_eq_true (by omega)) ?_
            bv_omega
            rw [List.length_map]
            refine w_dII (by omega) ?_
            rw [show ((u.length : Nat) : Int) % (m : Int) = ((u.length % m : Nat) : Int) by simp]
            have hko : kO L m σ.2.1 u = some (u.length % m) := if_pos z0
            have hkey : D.nkT (.tuple [rowD (lastN L (σ.2.1 ++ u)), nD (u.length % m)]) = some (qKey L m σ.2.1 u) := by
              have q := qKey_of L m σ.2.1 u
              rw [hko] at q
              exact q
            bv_omega
            refine led_ok t hσn hur ?_
            bv_omega
            refine w_ctN hkey ⟨by omega, ?_⟩
            cases hv : dVal E (qKey L m σ.2.1 u) with
            | some d0 =>
              obtain ⟨v, hvA, hpv, rfl⟩ := hE.from_ _ _ hv
              bv_omega
              by_cases z : run T σ.1 v = run T σ.1 u
              · rw [decide_eq_true (show ((run T σ.1 v : Nat) : Int) = ((run T σ.1 u : Nat) : Int) by omega)]
                bv_omega
                exact hKz _ ⟨A ++ [u], B, E, _, _, _, _, rfl, by rw [hab]; simp, hE.old (by rw [hv, z]), rfl⟩
              · rw [decide_eq_false (show ¬ ((run T σ.1 v : Nat) : Int) = ((run T σ.1 u : Nat) : Int) by omega)]
                bv_omega
                refine h false ⟨fun q => (by cases q), fun hr => absurd (right_ck.mp hr σ hσS v (by rw [hab]; exact List.mem_append_left _ hvA) u hum hpv) z⟩
            | none =>
              bv_omega
              rw [decide_eq_true rfl]
              bv_omega
              exact hKz _ ⟨A ++ [u], B, _, _, _, _, _, rfl, by rw [hab]; simp, hE.new hv, rfl⟩
          · refine w_iteF' (decide_eq_false (by omega)) ?_
            have hko : kO L m σ.2.1 u = none := if_neg z0
            have hkey : D.nkT (.tuple [rowD (lastN L (σ.2.1 ++ u)), .none]) = some (qKey L m σ.2.1 u) := by
              have q := qKey_of L m σ.2.1 u
              rw [hko] at q
              exact q
            bv_omega
            refine led_ok t hσn hur ?_
            bv_omega
            refine w_ctN hkey ⟨by omega, ?_⟩
            cases hv : dVal E (qKey L m σ.2.1 u) with
            | some d0 =>
              obtain ⟨v, hvA, hpv, rfl⟩ := hE.from_ _ _ hv
              bv_omega
              by_cases z : run T σ.1 v = run T σ.1 u
              · rw [decide_eq_true (show ((run T σ.1 v : Nat) : Int) = ((run T σ.1 u : Nat) : Int) by omega)]
                bv_omega
                exact hKz _ ⟨A ++ [u], B, E, _, _, _, _, rfl, by rw [hab]; simp, hE.old (by rw [hv, z]), rfl⟩
              · rw [decide_eq_false (show ¬ ((run T σ.1 v : Nat) : Int) = ((run T σ.1 u : Nat) : Int) by omega)]
                bv_omega
                refine h false ⟨fun q => (by cases q), fun hr => absurd (right_ck.mp hr σ hσS v (by rw [hab]; exact List.mem_append_left _ hvA) u hum hpv) z⟩
            | none =>
              bv_omega
              rw [decide_eq_true rfl]
              bv_omega
              exact hKz _ ⟨A ++ [u], B, _, _, _, _, _, rfl, by rw [hab]; simp, hE.new hv, rfl⟩
        · obtain ⟨A, B, E, s12, s16, s17, s18, e, hab, hE, rfl⟩ := hZ
          cases B with
          | cons u B => cases e
          | nil =>
          have hA : A = rowsUp T loss := by rw [hab]; simp
          subst hA
          have hck : CK T L loss m σ.1 σ.2.1 := hE.ck
          bv_omega
          refine ⟨⟨by omega, by omega⟩, ?_⟩
          rw [Int.toNat_natCast, show rangeD 0 1 T.length = (List.range' 0 T.length).map nD from rangeD1 0 T.length]
          refine forL_go (I := fun ds ρ => ∃ (x y : Nat) (X : List Sight) (s13 s19 : Sl), ds = (List.range' x y).map nD ∧ x + y = T.length ∧ (S ++ X).Nodup ∧ (∀ τ ∈ S ++ X, IsS T a L 1 τ) ∧ (∀ z, z < x → sNext T L 1 σ z ∈ S ++ X) ∧
            ρ = [.fz (tabL T), .fz (nD a), .fz (nD L), .fz (nD loss), .fz (nD m), .fz (.list ((rowsUp T loss).map rowD)), s6, .fz (nD i), .fz (nD T.length), .ow false (.lst ((S ++ X).map lsD)), .ow false (.dctN (metD (S ++ X))), .ow false (.dctN E), s12, s13, .fz (nD σ.1), .fz (rowD σ.2.1), s16, s17, s18, s19]) (fun d ds ρ Kz hKz hZ => ?_) (fun ρ hZ => ?_) ⟨0, T.length, [], s13, s19, rfl, by omega, by rw [List.append_nil]; exact nd, by rw [List.append_nil]; exact hS, fun z hz => by omega, by rw [List.append_nil]⟩
          · obtain ⟨x, y, X, s13, s19, e, hxy, nd', hS', hc, rfl⟩ := hZ
            cases y with
            | zero => cases e
            | succ y =>
            rw [List.range'_succ] at e
            cases e
            have hx : x < T.length := by omega
            have hX9 := sights_few t ha (by decide) f nd' hS'
            obtain ⟨r, e1, e2, _⟩ := stp_at t hx hσn
            bv_omega
            refine w_ixL (atI_map T rowD e1) ?_
            bv_omega
            refine w_ixT (atI_map r nD e2) ?_
            bv_omega
            refine w_addT (big (by rw [List.length_map]; simp; omega)) ?_
            rw [show (σ.2.1.map nD ++ [nD x]) = (σ.2.1 ++ [x]).map nD by rw [List.map_append]; rfl]
            bv_omega
            rw [cut_last (w := σ.2.1 ++ [x]) (L := L) (by rw [List.length_map, List.length_append]; simp)]
            bv_omega
            have hnx := hσS.next (L := L) (m := 1) hx
            refine w_ctN (lKey_of (sNext T L 1 σ x)) ?_
            rw [metD_is hnx hS']
            by_cases z : sNext T L 1 σ x ∈ S ++ X
            · rw [decide_eq_true z]
              bv_omega
              exact hKz _ ⟨x + 1, y, X, _, _, rfl, by omega, nd', hS', fun z' hz' => by
                by_cases e : z' = x
                · subst e; exact z
                · exact hc z' (by omega), rfl⟩
            · rw [decide_eq_false z]
              bv_omega
              have hnone : dVal (metD (S ++ X)) (lKey (sNext T L 1 σ x)) = none := by
                have q := metD_is hnx hS'
                rw [decide_eq_false z] at q
                cases hh : dVal (metD (S ++ X)) (lKey (sNext T L 1 σ x)) with
                | none => rfl
                | some w => rw [hh] at q; cases q
              refine w_ctN (lKey_of (sNext T L 1 σ x)) ⟨by rw [show (metD (S ++ X)).length = (S ++ X).length from List.length_map _]; omega, ?_⟩
              rw [dVal_new hnone, ← metD_app, List.append_assoc]
              bv_omega
              refine ⟨by rw [List.length_map]; omega, ?_⟩
              bv_omega
              refine hKz _ ⟨x + 1, y, X ++ [sNext T L 1 σ x], .fz (nD x), .fz (lsD (sNext T L 1 σ x)), rfl, by omega, ?_, fun τ hτ => ?_, fun z' hz' => ?_, ?_⟩
              · rw [← List.append_assoc]
                refine List.nodup_append.mpr ⟨nd', by simp, fun p hp r hr e => ?_⟩
                rw [List.mem_singleton] at hr
                rw [e, hr] at hp
                exact z hp
              · rw [← List.append_assoc] at hτ
                rcases List.mem_append.mp hτ with hτ | hτ
                · exact hS' τ hτ
                · rw [List.mem_singleton.mp hτ]; exact hnx
              · rw [← List.append_assoc]
                by_cases e : z' = x
                · subst e; exact List.mem_append_right _ (List.mem_singleton.mpr rfl)
                · exact List.mem_append_left _ (hc z' (by omega))
              · rw [← List.append_assoc, List.map_append (l₁ := S ++ X)]
                rfl
          · obtain ⟨x, y, X, s13, s19, e, hxy, nd', hS', hc, rfl⟩ := hZ
            cases y with
            | succ y => rw [List.range'_succ] at e; cases e
            | zero =>
            bv_omega
            refine hKy _ ⟨i + 1, j, S ++ X, .fz (.list ((rowsUp T loss).map rowD)), .fz (nD i), .ow false (.dctN E), s12, s13, .fz (nD σ.1), .fz (rowD σ.2.1), s16, s17, s18, s19, rfl, by omega, nd', hS', List.mem_append_left _ h0, by rw [List.length_append]; omega, fun x' τ hx' hτ => ?_, .inr rfl, rfl⟩
            by_cases z : x' = i
            · subst z
              rw [List.getElem?_append_left hiS, hσ] at hτ
              cases hτ
              exact ⟨hck, fun z' hz' => hc z' (by omega)⟩
            · rw [List.getElem?_append_left (by omega)] at hτ
              obtain ⟨d1, d2⟩ := hdone x' τ (by omega) hτ
              exact ⟨d1, fun z' hz' => List.mem_append_left _ (d2 z' hz')⟩
    · obtain ⟨i, j, S, s5, s7, s11, s12, s13, s14, s15, s16, s17, s18, s19, e, hij, nd, hS, h0, hi, hdone, h5, rfl⟩ := hJ
      cases j with
      | succ j => cases e
      | zero =>
      have hS9 := sights_few t ha (by decide) f nd hS
      omega
end
end DL.K28
set_option Elab.async false
set_option linter.all false
set_option maxRecDepth 100000
set_option maxHeartbeats 4000000
namespace DL.K28
open PySem L2 Evl DL
variable [Tbs]
/-! ### how many pages there are -/
theorem nodup_flat {α β : Type} {f : α → List β} : ∀ {l : List α}, l.Nodup → (∀ x ∈ l, (f x).Nodup) → (∀ x ∈ l, ∀ y ∈ l, ∀ z, z ∈ f x → z ∈ f y → x = y) → (l.flatMap f).Nodup
  | [], _, _, _ => by simp
  | x :: l, h1, h2, h3 => by
    obtain ⟨n1, n2⟩ := List.nodup_cons.mp h1
    rw [List.flatMap_cons]
    refine List.nodup_append.mpr ⟨h2 x (by simp), nodup_flat n2 (fun y hy => h2 y (by simp [hy])) (fun y hy z hz => h3 y (by simp [hy]) z (by simp [hz])), fun p hp q hq e => ?_⟩
    obtain ⟨y, hy, hqy⟩ := List.mem_flatMap.mp hq
    have := h3 x (by simp) y (by simp [hy]) p hp (by rw [e]; exact hqy)
    exact n1 (by rw [this]; exact hy)
theorem nodup_map {α β : Type} {f : α → β} : ∀ {l : List α}, l.Nodup → (∀ x ∈ l, ∀ y ∈ l, f x = f y → x = y) → (l.map f).Nodup
  | [], _, _ => by simp
  | x :: l, h1, h2 => by
    obtain ⟨n1, n2⟩ := List.nodup_cons.mp h1
    rw [List.map_cons]
    refine List.nodup_cons.mpr ⟨fun z => ?_, nodup_map n2 fun y hy z hz => h2 y (by simp [hy]) z (by simp [hz])⟩
    obtain ⟨y, hy, e⟩ := List.mem_map.mp z
    exact n1 (by rw [← h2 y (by simp [hy]) x (by simp) e]; exact hy)
section
variable {T : List (List Nat)}
theorem ext_flat : ∀ rs : List (List Nat), ext T rs = rs.flatMap (blockR T)
  | [] => rfl
  | r :: rs => by rw [List.flatMap_cons, ← ext_flat rs]; rfl
theorem rowsN_nodup : ∀ k, (rowsN T k).Nodup
  | 0 => by show ([[]] : List (List Nat)).Nodup; simp
  | k + 1 => by
    show (ext T (rowsN T k)).Nodup
    rw [ext_flat]
    refine nodup_flat (rowsN_nodup k) (fun r _ => nodup_map List.nodup_range fun x _ y _ e => ?_) fun r _ q _ z h1 h2 => ?_
    · have := List.append_cancel_left e
      simpa using this
    · obtain ⟨x, _, rfl⟩ := List.mem_map.mp h1
      obtain ⟨y, _, e⟩ := List.mem_map.mp h2
      have := congrArg List.dropLast e
      simp at this
      exact this.symm
def uPg (T : List (List Nat)) (L m : Nat) : List (List Nat × Nat) := ((List.range L).flatMap fun k => (rowsN T k).map fun r => (r, k % m)) ++ (List.range m).flatMap fun j => (rowsN T L).map fun r => (r, (L + j) % m)
theorem uPg_len (L m : Nat) : (uPg T L m).length = psum T.length L + m * T.length ^ L := by
  unfold uPg
  rw [List.length_append]
  congr 1
  · have : ∀ L, ((List.range L).flatMap fun k => (rowsN T k).map fun r => (r, k % m)).length = psum T.length L := by
      intro L
      induction L with
      | zero => rfl
      | succ L ih =>
        rw [List.range_succ, List.flatMap_append, List.length_append, ih]
        simp [psum, rowsN_len]
    exact this L
  · rw [flatMap_len (c := T.length ^ L) fun j _ => by rw [List.length_map, rowsN_len], List.length_range]
theorem uPg_nodup {L m : Nat} (hm : 1 ≤ m) : (uPg T L m).Nodup := by
  unfold uPg
  refine List.nodup_append.mpr ⟨nodup_flat List.nodup_range (fun k _ => nodup_map (rowsN_nodup k) fun x _ y _ e => congrArg Prod.fst e) fun k _ k' _ z h1 h2 => ?_, nodup_flat List.nodup_range (fun k _ => nodup_map (rowsN_nodup L) fun x _ y _ e => congrArg Prod.fst e) fun j hj j' hj' z h1 h2 => ?_, fun p hp q hq e => ?_⟩
  · obtain ⟨r, hr, rfl⟩ := List.mem_map.mp h1
    obtain ⟨q, hq, e⟩ := List.mem_map.mp h2
    have e1 : q = r := congrArg Prod.fst e
    have l1 := rowsN_rowlen k r hr
    have l2 := rowsN_rowlen k' q hq
    rw [← l1, ← l2, e1]
  · obtain ⟨r, hr, rfl⟩ := List.mem_map.mp h1
    obtain ⟨q, hq, e⟩ := List.mem_map.mp h2
    have e1 : (L + j') % m = (L + j) % m := congrArg Prod.snd e
    have := mod_cancel e1
    rw [Nat.mod_eq_of_lt (List.mem_range.mp hj), Nat.mod_eq_of_lt (List.mem_range.mp hj')] at this
    exact this.symm
  · obtain ⟨k, hk, h1⟩ := List.mem_flatMap.mp hp
    obtain ⟨j, hj, h2⟩ := List.mem_flatMap.mp hq
    obtain ⟨r, hr, rfl⟩ := List.mem_map.mp h1
    obtain ⟨r', hr', rfl⟩ := List.mem_map.mp h2
    have e1 : r = r' := congrArg Prod.fst e
    have l1 := rowsN_rowlen k r hr
    have l2 := rowsN_rowlen L r' hr'
    have := List.mem_range.mp hk
    rw [e1] at l1
    omega
theorem uPg_mem {L m k : Nat} (hm : 1 ≤ m) {r : List Nat} (hr : r ∈ rowsN T k) (hk : k < L + m) : (lastN L r, k % m) ∈ uPg T L m := by
  have hl := rowsN_rowlen k r hr
  have hrow := rowsN_row k r hr
  unfold uPg
  by_cases q : k < L
  · refine List.mem_append_left _ (List.mem_flatMap.mpr ⟨k, List.mem_range.mpr q, List.mem_map.mpr ⟨r, hr, ?_⟩⟩)
    rw [lastN_all (by omega)]
  · refine List.mem_append_right _ (List.mem_flatMap.mpr ⟨k - L, List.mem_range.mpr (by omega), List.mem_map.mpr ⟨lastN L r, ?_, by rw [show L + (k - L) = k by omega]⟩⟩)
    have h1 : Row T (lastN L r) := fun x hx => hrow x (List.mem_of_mem_drop hx)
    have h2 : (lastN L r).length = L := by rw [lastN_len]; omega
    have := rows_mem h1
    rwa [h2] at this
theorem uPg_from {n L m : Nat} (t : Tab T n) {p : List Nat × Nat} (hp : p ∈ uPg T L m) : ∃ k r, k < L + m ∧ r ∈ rowsN T k ∧ p = (lastN L r, k % m) := by
  unfold uPg at hp
  rcases List.mem_append.mp hp with hp | hp
  · obtain ⟨k, hk, h1⟩ := List.mem_flatMap.mp hp
    obtain ⟨r, hr, rfl⟩ := List.mem_map.mp h1
    have hk := List.mem_range.mp hk
    have hl := rowsN_rowlen k r hr
    exact ⟨k, r, by omega, hr, by rw [lastN_all (by omega)]⟩
  · obtain ⟨j, hj, h1⟩ := List.mem_flatMap.mp hp
    obtain ⟨r, hr, rfl⟩ := List.mem_map.mp h1
    have hj := List.mem_range.mp hj
    have hl := rowsN_rowlen L r hr
    have hrow := rowsN_row L r hr
    have t1 := t.t1
    have hz : Row T (List.replicate j 0 ++ r) := fun x hx => by
      rcases List.mem_append.mp hx with hx | hx
      · rw [(List.mem_replicate.mp hx).2]; omega
      · exact hrow x hx
    have := rows_mem hz
    rw [List.length_append, List.length_replicate, hl] at this
    refine ⟨j + L, _, by omega, this, ?_⟩
    rw [lastN_end _ hl, Nat.add_comm]
end
def pgT (P : List (List Nat × Nat)) : List (NestedKey × D) := P.map fun p => (pKey p, D.bool true)
theorem pgT_put {p : List Nat × Nat} : ∀ {P : List (List Nat × Nat)}, dPut (pgT P) (pKey p) (.bool true) = pgT (if p ∈ P then P else P ++ [p]) := fun {P} => by
  by_cases q : p ∈ P
  · rw [if_pos q]
    unfold dPut
    have h1 : ((pgT P).any fun kv => decide (kv.1 = pKey p)) = true := by
      rw [List.any_eq_true]
      exact ⟨(pKey p, .bool true), List.mem_map.mpr ⟨p, q, rfl⟩, decide_eq_true rfl⟩
    rw [h1, if_pos rfl]
    unfold pgT
    rw [List.map_map]
    refine List.map_congr_left fun x _ => ?_
    show (if pKey x = pKey p then (pKey x, D.bool true) else (pKey x, D.bool true)) = _
    split <;> rfl
  · rw [if_neg q]
    unfold dPut
    have h1 : ((pgT P).any fun kv => decide (kv.1 = pKey p)) = false := by
      rw [List.any_eq_false]
      intro kv hkv
      obtain ⟨x, hx, rfl⟩ := List.mem_map.mp hkv
      intro z
      have := pKey_inj (of_decide_eq_true z)
      exact q (by rw [← this]; exact hx)
    rw [h1, if_neg (by decide)]
    unfold pgT
    rw [List.map_append]
    rfl
section
variable {C Lk Rf Tg Ns : Addr} {XX : Exn → List Sl → Prop} {R : Rv → List Sl → Prop}
theorem law_pages_ok {T : List (List Nat)} {n L m : Nat} (t : Tab T n) (h1 : 1 ≤ m) (hm : m ≤ 3) (hL : L ≤ 4) (t2 : T.length ≤ 2) (h : R (.d (nD (psum T.length L + m * T.length ^ L))) [.un, .un, .un]) : dc__law_pages C Lk Rf Tg Ns [.fz (tabL T), .fz (nD L), .fz (nD m)] XX R := by
  have hsm : (uPg T L m).length ≤ 100 := by
    rw [uPg_len]
    have : ∀ t, t < 3 → ∀ L, L < 5 → psum t L + 3 * t ^ L ≤ 100 := by decide
    have h2 := this T.length (by omega) L (by omega)
    have h3 : m * T.length ^ L ≤ 3 * T.length ^ L := Nat.mul_le_mul_right _ hm
    omega
  refine di__law_pages ?_
  unfold ds__law_pages
  bv_omega
  refine ⟨⟨by omega, by omega⟩, ?_⟩
  rw [show ((L : Int) + (m : Int)).toNat = L + m by omega, show rangeD 0 1 (L + m) = (List.range' 0 (L + m)).map nD from rangeD1 0 (L + m)]
  refine forL_go (I := fun ds ρ => ∃ (k j : Nat) (P : List (List Nat × Nat)) (s4 s5 : Sl), ds = (List.range' k j).map nD ∧ k + j = L + m ∧ P.Nodup ∧ (∀ p ∈ P, p ∈ uPg T L m) ∧ (∀ i, i < k → ∀ r ∈ rowsN T i, (lastN L r, i % m) ∈ P) ∧ ρ = [.fz (tabL T), .fz (nD L), .fz (nD m), .ow false (.dctN (pgT P)), s4, s5]) (fun d ds ρ Kx hK hI => ?_) (fun ρ hI => ?_) ⟨0, L + m, [], .un, .un, rfl, by omega, by simp, fun p hp => by simp at hp, fun i hi => by omega, rfl⟩
  · obtain ⟨k, j, P, s4, s5, e, hkj, nd, hP, hc, rfl⟩ := hI
    cases j with
    | zero => cases e
    | succ j =>
    rw [List.range'_succ] at e
    cases e
    bv_omega
    rw [List.length_map]
    refine law_rows_ok t (by omega) ?_
    bv_omega
    refine forL_go (I := fun ds ρ => ∃ (A B : List (List Nat)) (P : List (List Nat × Nat)) (s5 : Sl), ds = B.map rowD ∧ rowsN T k = A ++ B ∧ P.Nodup ∧ (∀ p ∈ P, p ∈ uPg T L m) ∧ (∀ i, i < k → ∀ r ∈ rowsN T i, (lastN L r, i % m) ∈ P) ∧ (∀ r ∈ A, (lastN L r, k % m) ∈ P) ∧ ρ = [.fz (tabL T), .fz (nD L), .fz (nD m), .ow false (.dctN (pgT P)), .fz (nD k), s5]) (fun d ds ρ Ky hKy hJ => ?_) (fun ρ hJ => ?_) ⟨[], rowsN T k, P, s5, rfl, rfl, nd, hP, hc, fun r hr => by simp at hr, rfl⟩
    · obtain ⟨A, B, P, s5, e, hab, nd, hP, hc, hA, rfl⟩ := hJ
      cases B with
      | nil => cases e
      | cons r B =>
      cases e
      have hrm : r ∈ rowsN T k := by rw [hab]; simp
      have hrl := rowsN_rowlen k r hrm
      have hPl : P.length ≤ 100 := Nat.le_trans (subset_len nd hP) hsm
      bv_omega
      rw [cut_last (w := r) (L := L) (by rw [hrl])]
      bv_omega
      refine w_dII (by omega) ?_
      rw [show ((k : Nat) : Int) % (m : Int) = ((k % m : Nat) : Int) by simp]
      bv_omega
      refine w_ctN (pKey_of (lastN L r, k % m)) ⟨by rw [show (pgT P).length = P.length from List.length_map _]; omega, ?_⟩
      rw [pgT_put]
      bv_omega
      have mono : ∀ x ∈ P, x ∈ (if (lastN L r, k % m) ∈ P then P else P ++ [(lastN L r, k % m)]) := fun x hx => by
        split
        · exact hx
        · exact List.mem_append_left _ hx
      refine hKy _ ⟨A ++ [r], B, _, .fz (rowD r), rfl, by rw [hab]; simp, ?_, fun p hp => ?_, fun i hi q hq => mono _ (hc i hi q hq), fun q hq => ?_, rfl⟩
      · split
        · exact nd
        · rename_i z
          refine List.nodup_append.mpr ⟨nd, by simp, fun y hy w hw e => ?_⟩
          rw [List.mem_singleton] at hw
          rw [e, hw] at hy
          exact z hy
      · split at hp
        · exact hP p hp
        · rcases List.mem_append.mp hp with hp | hp
          · exact hP p hp
          · rw [List.mem_singleton.mp hp]; exact uPg_mem h1 hrm (by omega)
      · rcases List.mem_append.mp hq with hq | hq
        · exact mono _ (hA q hq)
        · rw [List.mem_singleton.mp hq]
          split
          · rename_i z; exact z
          · exact List.mem_append_right _ (List.mem_singleton.mpr rfl)
    · obtain ⟨A, B, P, s5, e, hab, nd, hP, hc, hA, rfl⟩ := hJ
      cases B with
      | cons r B => cases e
      | nil =>
      rw [List.append_nil] at hab
      bv_omega
      refine hK _ ⟨k + 1, j, P, .fz (nD k), s5, rfl, by omega, nd, hP, fun i hi r hr => ?_, rfl⟩
      by_cases e : i = k
      · subst e; exact hA r (by rw [← hab]; exact hr)
      · exact hc i (by omega) r hr
  · obtain ⟨k, j, P, s4, s5, e, hkj, nd, hP, hc, rfl⟩ := hI
    cases j with
    | succ j => rw [List.range'_succ] at e; cases e
    | zero =>
    bv_omega
    have e1 : (pgT P).length = P.length := List.length_map _
    have e2 : P.length = (uPg T L m).length := by
      refine Nat.le_antisymm (subset_len nd hP) (subset_len (uPg_nodup h1) fun p hp => ?_)
      obtain ⟨i, r, hi, hr, rfl⟩ := uPg_from t hp
      exact hc i (by omega) r hr
    rw [e1, e2, uPg_len]
    exact h
end
end DL.K28
set_option Elab.async false
set_option linter.all false
set_option maxRecDepth 100000
set_option maxHeartbeats 4000000
namespace DL.K28
open PySem L2 Evl DL
variable [Tbs]
/-! ### the whole curve -/
section
variable {T : List (List Nat)} {n a L L' loss m m' : Nat}
theorem Right.up (h : Right T a L loss m) (q : L ≤ L') : Right T a L' loss m := fun w u v hw hu hv lu lv e1 e2 => h w u v hw hu hv lu lv (by rw [← lastN_lastN q, e1, lastN_lastN q]) e2
theorem Right.mult (h : Right T a L loss m) (q : m ∣ m') : Right T a L loss m' := fun w u v hw hu hv lu lv e1 e2 => h w u v hw hu hv lu lv e1 (by rw [← Nat.mod_mod_of_dvd _ q, e2, Nat.mod_mod_of_dvd _ q])
theorem right_all : Right T a loss loss (loss + 1) := fun w u v hw hu hv lu lv e1 e2 => by
  have h1 := mod_cancel e2
  rw [Nat.mod_eq_of_lt (by omega), Nat.mod_eq_of_lt (by omega)] at h1
  have h2 : lastN u.length (lastN loss (w ++ u)) = lastN u.length (lastN loss (w ++ v)) := by rw [e1]
  rw [lastN_lastN lu, lastN_lastN lu, lastN_end w rfl, lastN_end w h1.symm] at h2
  rw [h2]
theorem right_one (t : Tab T 1) (ha : a < 1) : Right T a L loss m := fun w u v hw hu hv lu lv e1 e2 => by
  have h1 := IsS.lt (L := 0) (m := 1) t ha ⟨w ++ u, hw.app hu, rfl⟩
  have h2 := IsS.lt (L := 0) (m := 1) t ha ⟨w ++ v, hw.app hv, rfl⟩
  have h1 : run T a (w ++ u) < 1 := h1
  have h2 : run T a (w ++ v) < 1 := h2
  omega
open Classical in
theorem leastD_at (T : List (List Nat)) (a loss m K : Nat) : (∃ L, L ≤ K ∧ leastD T a loss m K = nD L ∧ Right T a L loss m ∧ ∀ j, j < L → ¬ Right T a j loss m) ∨ (leastD T a loss m K = .none ∧ ∀ L, L ≤ K → ¬ Right T a L loss m) := by
  unfold leastD
  by_cases q : ∃ L, L ≤ K ∧ Right T a L loss m ∧ ∀ j, j < L → ¬ Right T a j loss m
  · rw [dif_pos q]
    obtain ⟨h1, h2, h3⟩ := q.choose_spec
    exact .inl ⟨_, h1, rfl, h2, h3⟩
  · rw [dif_neg q]
    refine .inr ⟨rfl, fun L hL z => q ?_⟩
    have : ∀ k L, L ≤ k → L ≤ K → Right T a L loss m → ∃ L, L ≤ K ∧ Right T a L loss m ∧ ∀ j, j < L → ¬ Right T a j loss m := by
      intro k
      induction k with
      | zero => exact fun L h1 h2 h3 => ⟨L, h2, h3, fun j hj => by omega⟩
      | succ k ih =>
        intro L h1 h2 h3
        by_cases z : ∃ j, j < L ∧ Right T a j loss m
        · obtain ⟨j, hj, hr⟩ := z
          exact ih j (by omega) (by omega) hr
        · exact ⟨L, h2, h3, fun j hj hr => z ⟨j, hj, hr⟩⟩
    exact this L L (Nat.le_refl _) hL z
open Classical in
theorem look_some {L far : Nat} (hL : L ≤ far) (h1 : Right T a L loss m) (h2 : ∀ j, j < L → ¬ Right T a j loss m) : (List.range' 0 (far + 1)).filter (fun k => decide (Right T a k loss m)) = List.range' L (far + 1 - L) := by
  rw [show far + 1 = L + (far + 1 - L) by omega, ← List.range'_append_1, List.filter_append, List.filter_eq_nil_iff.mpr fun k hk => ?_, List.nil_append, List.filter_eq_self.mpr fun k hk => ?_]
  · rw [Nat.zero_add, Nat.add_sub_cancel_left]
  · have := List.mem_range'_1.mp hk
    exact decide_eq_true (h1.up (by omega))
  · have := List.mem_range'_1.mp hk
    simp only [decide_eq_true_eq]
    exact h2 k (by omega)
open Classical in
theorem look_none {far : Nat} (h2 : ∀ j, j ≤ far → ¬ Right T a j loss m) : (List.range' 0 (far + 1)).filter (fun k => decide (Right T a k loss m)) = [] := by
  refine List.filter_eq_nil_iff.mpr fun k hk => ?_
  have := List.mem_range'_1.mp hk
  simp only [decide_eq_true_eq]
  exact h2 k (by omega)
/-- the end of the search, as the law has it -/
theorem far_of (t : Tab T n) (ha : a < n) : (max loss ((n - 1) * loss) = (n - 1) * loss) ∨ (n = 1) := by
  by_cases q : n = 1
  · exact .inr q
  · refine .inl (Nat.max_eq_right ?_)
    exact Nat.le_mul_of_pos_left _ (by omega)
/-- one place of the curve against the law's own list -/
theorem told_look (t : Tab T n) (ha : a < n) (loss m : Nat) : (∃ L, L ≤ (n - 1) * loss ∧ leastD T a loss m ((n - 1) * loss) = nD L ∧ Right T a L loss m ∧ ∀ j, j < L → ¬ Right T a j loss m) ∨ (leastD T a loss m ((n - 1) * loss) = .none ∧ ∀ L, L ≤ max loss ((n - 1) * loss) → ¬ Right T a L loss m) := by
  rcases leastD_at T a loss m ((n - 1) * loss) with h | ⟨h1, h2⟩
  · exact .inl h
  · rcases far_of (loss := loss) t ha with q | q
    · rw [q]; exact .inr ⟨h1, h2⟩
    · subst q
      exact absurd (right_one t ha) (h2 0 (Nat.zero_le _))
theorem last_told (t : Tab T n) (ha : a < n) (loss : Nat) : ∃ L, L ≤ loss ∧ leastD T a loss (loss + 1) ((n - 1) * loss) = nD L := by
  rcases leastD_at T a loss (loss + 1) ((n - 1) * loss) with ⟨L, h1, h2, h3, h4⟩ | ⟨h1, h2⟩
  · refine ⟨L, Nat.le_of_not_lt fun z => h4 _ z right_all, h2⟩
  · by_cases q : n = 1
    · subst q
      exact absurd (right_one t ha) (h2 0 (Nat.zero_le _))
    · exact absurd right_all (h2 loss (Nat.le_mul_of_pos_left _ (by omega)))
end
end DL.K28
set_option Elab.async false
set_option linter.all false
set_option maxRecDepth 100000
set_option maxHeartbeats 4000000
namespace DL.K28
open PySem L2 Evl DL
variable [Tbs]
theorem deq_list_nil (xs : List D) : deq (.list xs) (.list []) = xs.isEmpty := by
  cases xs with
  | nil => unfold deq D.py PyData.eqv; rfl
  | cons x xs => unfold deq D.py PyData.eqv; rfl
theorem deq_nDs : ∀ N : List Nat, PyData.eqvAll (pys (N.map nD)) (pys (N.map nD)) = true
  | [] => by with_unfolding_all rfl
  | x :: N => by
    show (PyData.eqv (.int x) (.int x) && PyData.eqvAll (pys (N.map nD)) (pys (N.map nD))) = true
    rw [deq_nDs N, show PyData.eqv (.int (x : Int)) (.int x) = true by unfold PyData.eqv; simp]
    rfl
theorem deq_lst_self (N : List Nat) : deq (.list (N.map nD)) (.list (N.map nD)) = true := by
  unfold deq D.py PyData.eqv
  exact deq_nDs N
theorem ok_lst (m : Nat) (N : List Nat) : D.ok (m + 1) (.list (N.map nD)) = true := by
  show oks m (N.map nD) = true
  induction N with
  | nil => rfl
  | cons x N ih => show (D.ok m (nD x) && oks m (N.map nD)) = true; rw [ih, ok_int]; rfl
theorem rgD_nD {L far : Nat} : rgD (L : Int) ((far : Int) + 1) = (List.range' L (far + 1 - L)).map nD := by
  unfold rgD
  rw [show ((far : Int) + 1 - (L : Int)).toNat = far + 1 - L by omega, List.range'_eq_map_range, List.map_map]
  refine List.map_congr_left fun k _ => ?_
  show D.int ((L : Int) + (k : Nat)) = D.int ((L + k : Nat) : Int)
  rw [Int.natCast_add]
end DL.K28
set_option Elab.async false
set_option linter.all false
set_option maxRecDepth 100000
set_option maxHeartbeats 4000000
namespace DL.K28
open PySem L2 Evl DL
variable [Tbs]
section
variable {C Lk Rf Tg Ns : Addr} {XX : Exn → List Sl → Prop} {R : Rv → List Sl → Prop}
theorem cur_len {T : List (List Nat)} {a loss K : Nat} : ((List.range' 1 (loss + 1)).map fun m => leastD T a loss m K).length = loss + 1 := by rw [List.length_map, List.length_range']
theorem cur_at {T : List (List Nat)} {a loss K m : Nat} (h1 : 1 ≤ m) (h2 : m ≤ loss + 1) : ((List.range' 1 (loss + 1)).map fun m => leastD T a loss m K)[m - 1]? = some (leastD T a loss m K) := by
  rw [List.getElem?_map, List.getElem?_range' (by omega)]
  show some (leastD T a loss (1 + 1 * (m - 1)) K) = _
  rw [show 1 + 1 * (m - 1) = m by omega]
theorem isTy_tup {xs : List D} : isTy "tuple" (.tuple xs) = some true := by show subTy "tuple" "tuple" = some true; decide
open Classical in
theorem law_curve_right_ok {T : List (List Nat)} {n a loss : Nat} (t : Tab T n) (ha : a < n) (lm : Lim T n loss) (h : R (.d (.bool true)) [.un, .un, .un, .un]) :
    dc__law_curve_right C Lk Rf Tg Ns [.fz (tabL T), .fz (nD a), .fz (nD loss), .fz (curD T a loss ((n - 1) * loss))] XX R := by
  have hl := lm.l2
  have hf := lm.far
  have h4 := lm.n4
  refine di__law_curve_right ?_
  unfold ds__law_curve_right
  bv_omega
  refine w_ofS isTy_tup ?_
  bv_omega
  rw [cur_len, decide_eq_true (show ((loss + 1 : Nat) : Int) = (loss : Int) + 1 by omega)]
  bv_omega
  refine ⟨⟨by decide, by decide⟩, ⟨by omega, by omega⟩, ?_⟩
  rw [show ((loss : Int) + 2 - 1).toNat = loss + 1 by omega, show rangeD 1 1 (loss + 1) = (List.range' 1 (loss + 1)).map nD from rangeD1 1 (loss + 1)]
  obtain ⟨r0, x0, hr0, _, _, hl0⟩ := t.at (d := 0) (s := 0) (by have := t.t1; omega) (by have := t.n1; omega)
  have a0 : atI (T.map rowD) ((0 : Nat) : Int) = some (rowD r0) := atI_map T rowD hr0
  have n1 := t.n1
  have ac : ∀ k, 1 ≤ k → k ≤ loss + 1 → atI ((List.range' 1 (loss + 1)).map fun m => leastD T a loss m ((n - 1) * loss)) ((k : Int) - 1) = some (leastD T a loss k ((n - 1) * loss)) := fun k h1 h2 => by
    rw [show (k : Int) - 1 = ((k - 1 : Nat) : Int) by omega]
    refine atI_map (List.range' 1 (loss + 1)) (fun m => leastD T a loss m ((n - 1) * loss)) ?_
    rw [List.getElem?_range' (by omega)]
    rw [show 1 + 1 * (k - 1) = k by omega]
  have efar : max (loss : Int) (((n : Int) - 1) * (loss : Int)) = ((max loss ((n - 1) * loss) : Nat) : Int) := by
    rw [show (n : Int) - 1 = ((n - 1 : Nat) : Int) by omega, ← Int.natCast_mul]
    omega
  have far6 : max loss ((n - 1) * loss) ≤ 6 := by omega
  refine forL_go (I := fun ds ρ => ∃ (k j : Nat) (s4 s5 s6 s7 s8 : Sl), ds = (List.range' k j).map nD ∧ 1 ≤ k ∧ k + j = loss + 2 ∧ ρ = [.fz (tabL T), .fz (nD a), .fz (nD loss), .fz (curD T a loss ((n - 1) * loss)), s4, s5, s6, s7, s8, .un]) (fun d ds ρ Kx hK hI => ?_) (fun ρ hI => ?_) ⟨1, loss + 1, .un, .un, .un, .un, .un, rfl, by omega, by omega, rfl⟩
  · obtain ⟨k, j, s4, s5, s6, s7, s8, e, hk1, hkj, rfl⟩ := hI
    cases j with
    | zero => cases e
    | succ j =>
    rw [List.range'_succ] at e
    cases e
    bv_omega
    refine w_ixT (ac k hk1 (by omega)) ?_
    bv_omega
    refine w_ixL a0 ?_
    bv_omega
    rw [List.length_map, hl0]
    bv_omega
    refine w_mulI (.inl ⟨by omega, by omega⟩) ?_
    bv_omega
    rw [efar]
    bv_omega
    refine ⟨rfl, ?_⟩
    bv_omega
    have tl := told_look t ha loss k
    have tlo := fun m' => told_look t ha loss m'
    generalize hfar : max loss ((n - 1) * loss) = far at *
    refine w_nlc ?_
    bv_omega
    refine ⟨⟨by omega, by omega⟩, ?_⟩
    rw [show ((far : Int) + 1).toNat = far + 1 by omega, show rangeD 0 1 (far + 1) = (List.range' 0 (far + 1)).map nD from rangeD1 0 (far + 1)]
    refine ⟨by rw [List.length_map, List.length_range']; omega, ?_⟩
    refine lcL_filter (fun d => match d with
      | .int i => decide (Right T a i.toNat loss k)
      | _ => false) id (fun d hd K hK => ?_) ?_
    · obtain ⟨L, hL, rfl⟩ := List.mem_map.mp hd
      have hL := List.mem_range'_1.mp hL
      bv_omega
      refine law_right_ok t ha lm hk1 (by omega) (by omega) fun b hb => ?_
      have eb : b = decide (Right T a ((L : Int).toNat) loss k) := by
        rw [Int.toNat_natCast]
        by_cases z : Right T a L loss k
        · rw [hb.mpr z, decide_eq_true z]
        · rw [decide_eq_false z]
          cases b with
          | false => rfl
          | true => exact absurd (hb.mp rfl) z
      bv_omega
      rw [eb]
      refine hK _ rfl fun K2 hK2 => ?_
      bv_omega
      exact hK2 _ rfl
    · rw [List.nil_append, List.map_id, List.filter_map]
      rw [show ((fun d : D => match d with
        | .int i => decide (Right T a i.toNat loss k)
        | _ => false) ∘ nD) = fun x : Nat => decide (Right T a x loss k) from funext fun x => by show decide (Right T a ((x : Int).toNat) loss k) = _; rw [Int.toNat_natCast]]
      generalize eN : (List.range' 0 (far + 1)).filter (fun x : Nat => decide (Right T a x loss k)) = N
      have hN : N.length ≤ 7 := by
        rw [← eN]
        exact Nat.le_trans (List.length_filter_le _ _) (by rw [List.length_range']; omega)
      bv_omega
      have hKf : (n - 1) * loss ≤ far := by omega
      rcases tl with ⟨L, hLK, eL, hR, hmin⟩ | ⟨eL, hno⟩
      · have eN' : N = List.range' L (far + 1 - L) := by rw [← eN]; exact look_some (by omega) hR hmin
        obtain ⟨j', ej⟩ : ∃ j', far + 1 - L = j' + 1 := ⟨far - L, by omega⟩
        have eN2 : N = L :: List.range' (L + 1) j' := by rw [eN', ej, List.range'_succ]
        have hE : (N.map nD).isEmpty = false := by rw [eN2]; rfl
        have aN : atI (N.map nD) ((0 : Nat) : Int) = some (nD L) := atI_map N nD (by rw [eN2]; rfl)
        rw [eL]
        have sL := shw_dig (n := L) (by omega)
        refine w_repr (sL.shows (by decide) (by decide)) ?_
        bv_omega
        refine w_eq ⟨ok_lst 59 N, ok_lst 59 []⟩ ?_
        rw [if_pos rfl, deq_list_nil, hE]
        bv_omega
        refine w_ixL aN ?_
        bv_omega
        refine w_repr (sL.shows (by decide) (by decide)) ?_
        bv_omega
        refine w_eq ⟨sL.okS, sL.okS⟩ ?_
        rw [if_pos rfl, deq_str]
        bv_omega
        refine w_eq ⟨ok_lst 59 N, ok_lst 59 []⟩ ?_
        rw [if_pos rfl, deq_list_nil, hE]
        bv_omega
        refine w_ixL aN ?_
        bv_omega
        refine ⟨by unfold RgOk; refine ⟨?_, ?_⟩ <;> omega, ?_⟩
        rw [rgD_nD, ← eN']
        refine w_eq ⟨ok_lst 59 N, ok_lst 59 N⟩ ?_
        rw [if_pos rfl, deq_lst_self]
        bv_omega
        rw [show ((loss : Int) + 2 - (k : Int)).toNat = j + 1 by omega, show rangeD (k : Int) 1 (j + 1) = (List.range' k (j + 1)).map nD from rangeD1 k (j + 1)]
        refine ⟨⟨by omega, by omega⟩, ⟨by omega, by omega⟩, ?_⟩
        refine forL_go (I := fun ds ρ => ∃ (o i : Nat) (s6 : Sl), ds = (List.range' o i).map nD ∧ k ≤ o ∧ o + i = loss + 2 ∧ ρ = [.fz (tabL T), .fz (nD a), .fz (nD loss), .fz (curD T a loss ((n - 1) * loss)), .fz (nD k), .fz (.list ((N : List Nat).map nD)), s6, .fz (nD L), .fz (nD far), .un]) (fun d ds ρ Ky hKy hJ => ?_) (fun ρ hJ => ?_) ⟨k, j + 1, s6, rfl, Nat.le_refl _, by omega, rfl⟩
        · obtain ⟨o, i, s6, e, hko, hoi, rfl⟩ := hJ
          cases i with
          | zero => cases e
          | succ i =>
          rw [List.range'_succ] at e
          cases e
          bv_omega
          refine w_dII (by omega) ?_
          bv_omega
          by_cases q : ((o : Int) % (k : Int)) = 0
          · rw [decide_eq_true q]
            bv_omega
            have dv : k ∣ o := Nat.dvd_of_mod_eq_zero (by have : ((o % k : Nat) : Int) = 0 := by rw [Int.natCast_emod]; exact q
                                                          omega)
            rcases tlo o with ⟨L1, h1, e1, r1, m1⟩ | ⟨e1, no1⟩
            · have hLL : L1 ≤ L := Nat.le_of_not_lt fun z => m1 L z (hR.mult dv)
              rw [if_pos (show (if true = true then !isNoneD (nD L) else isNoneD (nD L)) = true from rfl)]
              bv_omega
              refine w_ixT (e1 ▸ ac o (by omega) (by omega)) ?_
              bv_omega
              rw [if_neg (show ¬ (if false = true then !isNoneD (nD L1) else isNoneD (nD L1)) = true from (show ¬ (false = true) by decide))]
              bv_omega
              refine w_ixT (e1 ▸ ac o (by omega) (by omega)) ?_
              bv_omega
              rw [decide_eq_false (show ¬ ((L1 : Int) > (L : Int)) by omega)]
              bv_omega
              exact hKy _ ⟨o + 1, i, .fz (nD o), rfl, by omega, by omega, rfl⟩
            · exact absurd (hR.mult dv) (no1 L (by omega))
          · rw [decide_eq_false q]
            bv_omega
            exact hKy _ ⟨o + 1, i, .fz (nD o), rfl, by omega, by omega, rfl⟩
        · obtain ⟨o, i, s6, e, hko, hoi, rfl⟩ := hJ
          bv_omega
          exact hK _ ⟨k + 1, j, _, _, _, _, _, rfl, by omega, by omega, rfl⟩
      · have eN' : N = [] := by rw [← eN]; exact look_none hno
        subst eN'
        rw [eL]
        refine w_repr (shw_none.shows (by decide) (by decide)) ?_
        bv_omega
        refine w_eq ⟨ok_lst 59 [], ok_lst 59 []⟩ ?_
        rw [if_pos rfl, deq_list_nil, show (List.map nD []).isEmpty = true from rfl]
        bv_omega
        refine w_repr (shw_none.shows (by decide) (by decide)) ?_
        bv_omega
        refine w_eq ⟨shw_none.okS, shw_none.okS⟩ ?_
        rw [if_pos rfl, deq_str]
        bv_omega
        refine w_eq ⟨ok_lst 59 [], ok_lst 59 []⟩ ?_
        rw [if_pos rfl, deq_list_nil, show (List.map nD []).isEmpty = true from rfl]
        bv_omega
        rw [show ((loss : Int) + 2 - (k : Int)).toNat = j + 1 by omega, show rangeD (k : Int) 1 (j + 1) = (List.range' k (j + 1)).map nD from rangeD1 k (j + 1)]
        refine ⟨⟨by omega, by omega⟩, ⟨by omega, by omega⟩, ?_⟩
        refine forL_go (I := fun ds ρ => ∃ (o i : Nat) (s6 : Sl), ds = (List.range' o i).map nD ∧ k ≤ o ∧ o + i = loss + 2 ∧ ρ = [.fz (tabL T), .fz (nD a), .fz (nD loss), .fz (curD T a loss ((n - 1) * loss)), .fz (nD k), .fz (.list (([] : List Nat).map nD)), s6, .fz (.none), .fz (nD far), .un]) (fun d ds ρ Ky hKy hJ => ?_) (fun ρ hJ => ?_) ⟨k, j + 1, s6, rfl, Nat.le_refl _, by omega, rfl⟩
        · obtain ⟨o, i, s6, e, hko, hoi, rfl⟩ := hJ
          cases i with
          | zero => cases e
          | succ i =>
          rw [List.range'_succ] at e
          cases e
          bv_omega
          refine w_dII (by omega) ?_
          bv_omega
          by_cases q : ((o : Int) % (k : Int)) = 0
          · rw [decide_eq_true q]
            bv_omega
            rw [if_neg (show ¬ (if true = true then !isNoneD .none else isNoneD .none) = true by decide)]
            bv_omega
            exact hKy _ ⟨o + 1, i, .fz (nD o), rfl, by omega, by omega, rfl⟩
          · rw [decide_eq_false q]
            bv_omega
            exact hKy _ ⟨o + 1, i, .fz (nD o), rfl, by omega, by omega, rfl⟩
        · obtain ⟨o, i, s6, e, hko, hoi, rfl⟩ := hJ
          bv_omega
          exact hK _ ⟨k + 1, j, _, _, _, _, _, rfl, by omega, by omega, rfl⟩
  · obtain ⟨k, j, s4, s5, s6, s7, s8, e, hk1, hkj, rfl⟩ := hI
    cases j with
    | succ j => cases e
    | zero =>
    obtain ⟨L, hL, eL⟩ := last_told t ha loss
    have acl : atI ((List.range' 1 (loss + 1)).map fun m => leastD T a loss m ((n - 1) * loss)) (loss : Int) = some (nD L) := by
      have := ac (loss + 1) (by omega) (by omega)
      rw [eL, show ((loss + 1 : Nat) : Int) - 1 = (loss : Int) by omega] at this
      exact this
    bv_omega
    refine w_ixT acl ?_
    bv_omega
    rw [if_pos (show (if true = true then !isNoneD (nD L) else isNoneD (nD L)) = true from rfl)]
    bv_omega
    refine w_ixT acl ?_
    bv_omega
    rw [decide_eq_true (show (L : Int) ≤ (loss : Int) by omega)]
    exact h

end
end DL.K28
set_option Elab.async false
set_option linter.all false
set_option maxRecDepth 100000
set_option maxHeartbeats 400000
namespace DL.K28
open PySem L2 Evl DL
variable [Tbs]
theorem odd_shows {d : D} (h : d = .int (0 - 1) ∨ d = .int 9 ∨ d = .none ∨ d = .bool true ∨ d = .str (Str.ofString "0")) : d.shows = true ∧ D.ok 60 (.str d.py.shown) = true := by
  rcases h with rfl | rfl | rfl | rfl | rfl <;> with_unfolding_all decide
theorem bad1 {n : Nat} (h1 : 1 ≤ n) (h4 : n ≤ 4) {d : D} (hd : d ∈ [D.int (n : Int), .int (0 - 1), .none, .bool true, .str (Str.ofString "0")]) : Bad 0 ((n : Int) - 1) d ∧ d.shows = true ∧ D.ok 60 (.str d.py.shown) = true := by
  simp only [List.mem_cons, List.not_mem_nil, or_false] at hd
  rcases hd with rfl | rfl | rfl | rfl | rfl
  · have s := shw_dig (n := n) (by omega)
    exact ⟨.inr ⟨_, rfl, by omega⟩, s.shows (by decide) (by decide), s.okS⟩
  · exact ⟨.inr ⟨_, rfl, by omega⟩, odd_shows (.inl rfl)⟩
  · exact ⟨.inl (.inl rfl), odd_shows (.inr (.inr (.inl rfl)))⟩
  · exact ⟨.inl (.inr (.inl rfl)), odd_shows (.inr (.inr (.inr (.inl rfl))))⟩
  · exact ⟨.inl (.inr (.inr ⟨_, rfl⟩)), odd_shows (.inr (.inr (.inr (.inr rfl))))⟩
theorem bad2 {d : D} (hd : d ∈ [D.int (0 - 1), .int 9, .none, .bool true, .str (Str.ofString "0")]) : Bad 0 8 d ∧ d.shows = true ∧ D.ok 60 (.str d.py.shown) = true := by
  simp only [List.mem_cons, List.not_mem_nil, or_false] at hd
  refine ⟨?_, odd_shows hd⟩
  rcases hd with rfl | rfl | rfl | rfl | rfl
  · exact .inr ⟨_, rfl, by omega⟩
  · exact .inr ⟨_, rfl, by omega⟩
  · exact .inl (.inl rfl)
  · exact .inl (.inr (.inl rfl))
  · exact .inl (.inr (.inr ⟨_, rfl⟩))
theorem tup2 {x y : Str} (hx : D.ok 60 (.str x) = true) (hy : D.ok 60 (.str y) = true) : D.ok 60 (.tuple [.str x, .str y]) = true ∧ deq (.tuple [.str x, .str y]) (.tuple [.str x, .str y]) = true := by
  refine ⟨?_, ?_⟩
  · show (PyData.strOk x && (PyData.strOk y && true)) = true
    rw [show PyData.strOk x = true from hx, show PyData.strOk y = true from hy]
    rfl
  · show ((x == x) && ((y == y) && true)) = true
    simp
end DL.K28
set_option Elab.async false
set_option linter.all false
set_option maxRecDepth 100000
set_option maxHeartbeats 4000000
namespace DL.K28
open PySem L2 Evl DL
variable [Tbs]
section
variable {C Lk Rf Tg Ns : Addr} {XX : Exn → List Sl → Prop} {R : Rv → List Sl → Prop}
theorem shows_two : ∀ c : Nat, c < 101 → (D.list [.int (c : Int), .int (c : Int)]).shows = true ∧ D.ok 60 (.str (D.py (.list [.int (c : Int), .int (c : Int)])).shown) = true := by
  with_unfolding_all decide
theorem shw_cur {T : List (List Nat)} {n a loss : Nat} (t : Tab T n) (ha : a < n) (lm : Lim T n loss) : Shw (curD T a loss ((n - 1) * loss)) 1 (((List.range' 1 (loss + 1)).map fun m => leastD T a loss m ((n - 1) * loss)).length * (4 + 2) + 3) := by
  refine shw_tup fun x hx => ?_
  obtain ⟨m, _, rfl⟩ := List.mem_map.mp hx
  have := lm.far
  rcases leastD_at T a loss m ((n - 1) * loss) with ⟨L, h1, h2, _⟩ | ⟨h2, _⟩
  · rw [h2]; exact (shw_dig (by omega)).imp (Nat.le_refl _) (by decide)
  · rw [h2]; exact shw_none
theorem law_ok {ns : List Int} (hn : ns.length ≤ 1000) (h : R (.d (.bool true)) [.un]) : dc_law C Lk Rf Tg Ns [.fz (.rol (ns.map .int))] XX R := by
  refine di_law ?_
  unfold ds_law
  bv_omega
  refine ⟨⟨by decide, by decide⟩, ?_⟩
  rw [show rangeD 0 1 ((2 : Int)).toNat = (List.range' 0 2).map nD from rangeD1 0 2]
  refine forL_go (I := fun ds ρ => ∃ (k j : Nat) (s1 s2 s3 s4 s5 s6 s7 s8 s9 s10 s11 s12 s13 : Sl), ds = (List.range' k j).map nD ∧ k + j = 2 ∧ ρ = [.fz (.rol (ns.map .int)), s1, s2, s3, s4, s5, s6, s7, s8, s9, s10, s11, s12, s13]) (fun d ds ρ Kx hK hI => ?_) (fun ρ hI => ?_) ⟨0, 2, .un, .un, .un, .un, .un, .un, .un, .un, .un, .un, .un, .un, .un, rfl, rfl, rfl⟩
  · obtain ⟨k, j, s1, s2, s3, s4, s5, s6, s7, s8, s9, s10, s11, s12, s13, e, hkj, rfl⟩ := hI
    cases j with
    | zero => cases e
    | succ j =>
      rw [List.range'_succ] at e
      cases e
      bv_omega
      refine box_ok hn fun c hb => ?_
      bv_omega
      refine tables_ok (most := 4) (kinds := 2) hb (by decide) (by decide) (by decide) (by decide) fun T n c1 t hn4 ht2 hb1 => ?_
      obtain ⟨r0, x0, hr0, _, _, hl0⟩ := t.at (d := 0) (s := 0) (by have := t.t1; omega) (by have := t.n1; omega)
      have a0 : atI (T.map rowD) ((0 : Nat) : Int) = some (rowD r0) := atI_map T rowD hr0
      have hn1 := t.n1
      have ht1 := t.t1
      bv_omega
      refine ⟨rfl, init_list_ok t ⟨rfl, ?_⟩⟩
      bv_omega
      refine w_ixL a0 ?_
      bv_omega
      refine take_ok hb1 (by rw [List.length_map]; omega) (by rw [List.length_map]; omega) fun a c3 ha' hb3 => ?_
      rw [List.length_map, hl0] at ha'
      have ha : a < n := ha'
      bv_omega
      refine take_ok (m := 3) hb3 (by decide) (by decide) fun loss c4 hl hb4 => ?_
      have lm : Lim T n loss := ⟨hn4, ht2, by omega⟩
      bv_omega
      refine ⟨rfl, ?_⟩
      show dSeq _ _ [.fz (.rol (ns.map .int)), .fz (nD k), .ow false c4, .fz (tabL T), s4, .fz (macD C T n), .fz (nD a), .fz (nD loss), s8, s9, s10, s11, s12, s13] _
      bv_omega
      refine lengths_ok t ha lm ?_
      bv_omega
      refine law_curve_right_ok t ha lm ?_
      bv_omega
      refine (show dc_lengths_by_modulus C Lk Rf Tg Ns [.fz (macD C T n), .fz (nD a), .fz (nD loss)] _ _ from lengths_ok t ha lm ?_)
      bv_omega
      have sC := shw_cur t ha lm
      refine w_eq ⟨sC.ok 60 (by decide), sC.ok 60 (by decide)⟩ ?_
      rw [if_pos rfl, sC.deq]
      bv_omega
      refine take_ok (m := 5) hb4 (by decide) (by decide) fun L c5 hL hb5 => ?_
      bv_omega
      refine take_ok (m := 3) hb5 (by decide) (by decide) fun m0 c6 hm0 hb6 => ?_
      bv_omega
      rw [show (1 : Int) + (m0 : Int) = ((1 + m0 : Nat) : Int) by omega]
      obtain ⟨m, hm⟩ : ∃ m, 1 + m0 = m := ⟨_, rfl⟩
      rw [hm]
      bv_omega
      refine ⟨rfl, ?_⟩
      show dSeq _ _ [.fz (.rol (ns.map .int)), .fz (nD k), .ow false c6, .fz (tabL T), .fz (curD T a loss ((n - 1) * loss)), .fz (macD C T n), .fz (nD a), .fz (nD loss), .fz (nD L), .fz (nD m), s10, s11, s12, s13] _
      bv_omega
      refine ⟨rfl, link_init_ok ha (by omega) (by omega) (by omega) (by omega) ⟨rfl, ?_⟩⟩
      bv_omega
      refine law_pages_ok t (by omega) (by omega) (by omega) ht2 ?_
      bv_omega
      refine ⟨rfl, ?_⟩
      show dSeq _ _ [.fz (.rol (ns.map .int)), .fz (nD k), .ow false c6, .fz (tabL T), .fz (curD T a loss ((n - 1) * loss)), .fz (macD C T n), .fz (nD a), .fz (nD loss), .fz (nD L), .fz (nD m), .fz (lkD Lk C T n a L loss m), .fz (nD (psum T.length L + m * T.length ^ L)), s12, s13] _
      bv_omega
      refine page_count_ok t (by omega) (by omega) ?_
      bv_omega
      refine (show dc_page_count C Lk Rf Tg Ns [.fz (lkD Lk C T n a L loss m)] _ _ from page_count_ok t (by omega) (by omega) ?_)
      have hpc : psum T.length L + m * T.length ^ L < 101 := by
        have : ∀ t, t < 3 → ∀ L, L < 5 → psum t L + 3 * t ^ L ≤ 100 := by decide
        have h2 := this T.length (by omega) L (by omega)
        have h3 : m * T.length ^ L ≤ 3 * T.length ^ L := Nat.mul_le_mul_right _ (by omega)
        omega
      obtain ⟨sw1, sw2⟩ := shows_two _ hpc
      bv_omega
      refine w_repr sw1 ?_
      bv_omega
      refine w_repr sw1 ?_
      bv_omega
      refine w_eq ⟨sw2, sw2⟩ ?_
      rw [if_pos rfl, deq_str]
      bv_omega
      refine w_ixL a0 ?_
      bv_omega
      refine (show dc__law_pick C Lk Rf Tg Ns [.ow true c6, .fz (.list [.int ((r0.map nD).length : Nat), .int (0 - 1), .none, .bool true, .str (Str.ofString "0")])] _ _ from pick_ok hb6 (Nat.le_of_ble_eq_true rfl) (Nat.le_of_ble_eq_true rfl) fun bad c7 hbad hb7 => ?_)
      rw [List.length_map, hl0] at hbad
      obtain ⟨bB, bS, bO⟩ := bad1 hn1 hn4 hbad
      bv_omega
      refine (show dc__law_pick C Lk Rf Tg Ns [.ow true c7, .fz (.list [.int (0 - 1), .int 9, .none, .bool true, .str (Str.ofString "0")])] _ _ from pick_ok hb7 (by decide) (by decide) fun odd c8 hodd hb8 => ?_)
      obtain ⟨oB, oS, oO⟩ := bad2 hodd
      bv_omega
      refine ⟨rfl, ?_⟩
      show dSeq _ _ [.fz (.rol (ns.map .int)), .fz (nD k), .ow false c8, .fz (tabL T), .fz (curD T a loss ((n - 1) * loss)), .fz (macD C T n), .fz (nD a), .fz (nD loss), .fz (nD L), .fz (nD m), .fz (lkD Lk C T n a L loss m), .fz (nD (psum T.length L + m * T.length ^ L)), .fz bad, .fz odd] _
      bv_omega
      refine lengths_bad_state bB ?_
      refine Exists.intro true (And.intro (.tail _ (.tail _ (.head _))) (And.intro (fun _ aa dd => ?_) fun z => absurd z (by decide)))
      bv_omega
      have t1 := tup2 (x := Str.ofString "state") (by with_unfolding_all decide) bO
      refine ⟨bS, Nat.le_of_ble_eq_true rfl, bS, Nat.le_of_ble_eq_true rfl, ⟨t1.1, t1.1⟩, ?_⟩
      rw [if_pos rfl, t1.2]
      bv_omega
      refine lengths_bad_loss ha oB ?_
      refine Exists.intro false (And.intro (.head _) (And.intro (fun z => absurd z (by decide)) fun _ => Exists.intro false (And.intro (.head _) (And.intro (fun z => absurd z (by decide)) fun _ => Exists.intro true (And.intro (.head _) (And.intro (fun _ aa dd => ?_) fun z => absurd z (by decide)))))))
      bv_omega
      have t2 := tup2 (x := Str.ofString "refused") (by with_unfolding_all decide) oO
      refine ⟨oS, Nat.le_of_ble_eq_true rfl, oS, Nat.le_of_ble_eq_true rfl, ⟨t2.1, t2.1⟩, ?_⟩
      rw [if_pos rfl, t2.2]
      bv_omega
      exact hK _ ⟨k + 1, j, _, _, _, _, _, _, _, _, _, _, _, _, _, rfl, by omega, rfl⟩
  · obtain ⟨k, j, s1, s2, s3, s4, s5, s6, s7, s8, s9, s10, s11, s12, s13, e, hkj, rfl⟩ := hI
    bv_omega
    exact h
end
end DL.K28
set_option Elab.async false
set_option linter.all false
set_option maxRecDepth 100000
set_option maxHeartbeats 0
namespace DL.K28
open PySem PySem.Spec PyProof.Rows L2 DL
theorem factsL [Tbs] {K : PySem.W.Frag} {h : Heap} {mg : Str → Option Value} (X : K.In h) (Gm : h.Ns mainGlobals mg) (c : DL.SaysY rowL.prog hdL h K) : ∃ Γ : G rowL.prog K mg (He.ga K "Machine") (He.ga K "Link") (He.ga K "Refused") (He.ga K "TooGreat") (He.ga K "NoState"), Γ.f_law = He.ga K "law" ∧ Γ.c_law = (He.cT K ("law", none)).1 ∧ Γ.p_law = (He.cT K ("law", none)).2 := by
  obtain ⟨t_MOST_DEEDS, e_MOST_DEEDS⟩ := He.int_ok X Gm (c.d.fact 14 (f := .int "MOST_DEEDS" 4) rfl)
  obtain ⟨t_MOST_LENGTH, e_MOST_LENGTH⟩ := He.int_ok X Gm (c.d.fact 15 (f := .int "MOST_LENGTH" 12) rfl)
  obtain ⟨t_MOST_LOSS, e_MOST_LOSS⟩ := He.int_ok X Gm (c.d.fact 16 (f := .int "MOST_LOSS" 8) rfl)
  obtain ⟨t_MOST_MODULUS, e_MOST_MODULUS⟩ := He.int_ok X Gm (c.d.fact 17 (f := .int "MOST_MODULUS" 9) rfl)
  obtain ⟨t_MOST_STATES, e_MOST_STATES⟩ := He.int_ok X Gm (c.d.fact 18 (f := .int "MOST_STATES" 8) rfl)
  obtain ⟨t_RUNS, e_RUNS⟩ := He.str_ok X Gm (c.d.fact 19 (f := .str "RUNS" "runs") rfl)
  obtain ⟨fd0, F0⟩ := c.d.def_ 0 (d := d_is_integer) rfl
  obtain ⟨fd1, F1⟩ := c.d.def_ 1 (d := d_is_number) rfl
  obtain ⟨fd2, F2⟩ := c.d.def_ 2 (d := d_is_below) rfl
  obtain ⟨fd3, F3⟩ := c.d.def_ 3 (d := d_is_within) rfl
  obtain ⟨fd4, F4⟩ := c.d.def_ 4 (d := d_is_sequence) rfl
  obtain ⟨fd5, F5⟩ := c.d.def_ 5 (d := d_is_table) rfl
  obtain ⟨fd6, F6⟩ := c.d.def_ 6 (d := d_check_tables) rfl
  obtain ⟨fd7, F7⟩ := c.d.def_ 7 (d := d_need_state) rfl
  obtain ⟨fd8, F8⟩ := c.d.def_ 8 (d := d_last_deeds) rfl
  obtain ⟨fd9, F9⟩ := c.d.def_ 9 (d := d_page_on) rfl
  obtain ⟨fd10, F10⟩ := c.d.def_ 10 (d := d_sight_on) rfl
  obtain ⟨fd11, F11⟩ := c.d.def_ 11 (d := d_sight_rows) rfl
  obtain ⟨fd12, F12⟩ := c.d.def_ 12 (d := d_sights_within) rfl
  obtain ⟨fd13, F13⟩ := c.d.def_ 13 (d := d_open_rows) rfl
  obtain ⟨fd14, F14⟩ := c.d.def_ 14 (d := d_open_paper) rfl
  obtain ⟨fd15, F15⟩ := c.d.def_ 15 (d := d_Link___init__) rfl
  obtain ⟨fd16, F16⟩ := c.d.def_ 16 (d := d_least_length) rfl
  obtain ⟨fd17, F17⟩ := c.d.def_ 17 (d := d_is_within_loss) rfl
  obtain ⟨fd18, F18⟩ := c.d.def_ 18 (d := d_need_loss) rfl
  obtain ⟨fd19, F19⟩ := c.d.def_ 19 (d := d_rows_count) rfl
  obtain ⟨fd20, F20⟩ := c.d.def_ 20 (d := d_page_count) rfl
  obtain ⟨fd21, F21⟩ := c.d.def_ 21 (d := d_lengths_by_modulus) rfl
  obtain ⟨fd22, F22⟩ := c.d.def_ 22 (d := d__law_box) rfl
  obtain ⟨fd23, F23⟩ := c.d.def_ 23 (d := d__law_take) rfl
  obtain ⟨fd24, F24⟩ := c.d.def_ 24 (d := d__law_pick) rfl
  obtain ⟨fd25, F25⟩ := c.d.def_ 25 (d := d__law_tables) rfl
  obtain ⟨fd26, F26⟩ := c.d.def_ 26 (d := d__law_led) rfl
  obtain ⟨fd27, F27⟩ := c.d.def_ 27 (d := d__law_rows) rfl
  obtain ⟨fd28, F28⟩ := c.d.def_ 28 (d := d__law_right) rfl
  obtain ⟨fd29, F29⟩ := c.d.def_ 29 (d := d__law_pages) rfl
  obtain ⟨fd30, F30⟩ := c.d.def_ 30 (d := d__law_curve_right) rfl
  obtain ⟨fd31, F31⟩ := c.d.def_ 31 (d := d_Machine___init__) rfl
  obtain ⟨fd32, F32⟩ := c.d.def_ 32 (d := d_law) rfl
  obtain ⟨fd33, F33⟩ := c.d.def_ 33 (d := d__law_heard) rfl
  exact ⟨{
    b_abs := He.free_ok X Gm (c.d.fact 0 rfl)
    b_all := He.free_ok X Gm (c.d.fact 1 rfl)
    b_bool := He.free_ok X Gm (c.d.fact 2 rfl)
    b_enumerate := He.free_ok X Gm (c.d.fact 3 rfl)
    b_int := He.free_ok X Gm (c.d.fact 4 rfl)
    b_isinstance := He.free_ok X Gm (c.d.fact 5 rfl)
    b_len := He.free_ok X Gm (c.d.fact 6 rfl)
    b_list := He.free_ok X Gm (c.d.fact 7 rfl)
    b_max := He.free_ok X Gm (c.d.fact 8 rfl)
    b_min := He.free_ok X Gm (c.d.fact 9 rfl)
    b_range := He.free_ok X Gm (c.d.fact 10 rfl)
    b_repr := He.free_ok X Gm (c.d.fact 11 rfl)
    b_sum := He.free_ok X Gm (c.d.fact 12 rfl)
    b_tuple := He.free_ok X Gm (c.d.fact 13 rfl)
    u_MOST_DEEDS := .int 4 t_MOST_DEEDS
    g_MOST_DEEDS := ⟨e_MOST_DEEDS, t_MOST_DEEDS, rfl⟩
    u_MOST_LENGTH := .int 12 t_MOST_LENGTH
    g_MOST_LENGTH := ⟨e_MOST_LENGTH, t_MOST_LENGTH, rfl⟩
    u_MOST_LOSS := .int 8 t_MOST_LOSS
    g_MOST_LOSS := ⟨e_MOST_LOSS, t_MOST_LOSS, rfl⟩
    u_MOST_MODULUS := .int 9 t_MOST_MODULUS
    g_MOST_MODULUS := ⟨e_MOST_MODULUS, t_MOST_MODULUS, rfl⟩
    u_MOST_STATES := .int 8 t_MOST_STATES
    g_MOST_STATES := ⟨e_MOST_STATES, t_MOST_STATES, rfl⟩
    u_RUNS := .str "runs" t_RUNS
    g_RUNS := ⟨e_RUNS, t_RUNS, rfl⟩
    f_is_integer := He.fAd K ("is_integer", none)
    fd_is_integer := fd0
    F_is_integer := F0
    m_is_integer := He.glo_ok X Gm (c.d.fact 20 (f := .glo "is_integer") rfl)
    f_is_number := He.fAd K ("is_number", none)
    fd_is_number := fd1
    F_is_number := F1
    m_is_number := He.glo_ok X Gm (c.d.fact 21 (f := .glo "is_number") rfl)
    f_is_below := He.fAd K ("is_below", none)
    fd_is_below := fd2
    F_is_below := F2
    m_is_below := He.glo_ok X Gm (c.d.fact 22 (f := .glo "is_below") rfl)
    f_is_within := He.fAd K ("is_within", none)
    fd_is_within := fd3
    F_is_within := F3
    m_is_within := He.glo_ok X Gm (c.d.fact 23 (f := .glo "is_within") rfl)
    f_is_sequence := He.fAd K ("is_sequence", none)
    fd_is_sequence := fd4
    F_is_sequence := F4
    m_is_sequence := He.glo_ok X Gm (c.d.fact 24 (f := .glo "is_sequence") rfl)
    f_is_table := He.fAd K ("is_table", none)
    fd_is_table := fd5
    F_is_table := F5
    m_is_table := He.glo_ok X Gm (c.d.fact 25 (f := .glo "is_table") rfl)
    f_check_tables := He.fAd K ("check_tables", none)
    fd_check_tables := fd6
    F_check_tables := F6
    m_check_tables := He.glo_ok X Gm (c.d.fact 26 (f := .glo "check_tables") rfl)
    f_need_state := He.fAd K ("need_state", none)
    fd_need_state := fd7
    F_need_state := F7
    m_need_state := He.glo_ok X Gm (c.d.fact 27 (f := .glo "need_state") rfl)
    f_last_deeds := He.fAd K ("last_deeds", none)
    fd_last_deeds := fd8
    F_last_deeds := F8
    m_last_deeds := He.glo_ok X Gm (c.d.fact 28 (f := .glo "last_deeds") rfl)
    f_page_on := He.fAd K ("page_on", none)
    fd_page_on := fd9
    F_page_on := F9
    m_page_on := He.glo_ok X Gm (c.d.fact 29 (f := .glo "page_on") rfl)
    f_sight_on := He.fAd K ("sight_on", none)
    fd_sight_on := fd10
    F_sight_on := F10
    m_sight_on := He.glo_ok X Gm (c.d.fact 30 (f := .glo "sight_on") rfl)
    f_sight_rows := He.fAd K ("sight_rows", none)
    fd_sight_rows := fd11
    F_sight_rows := F11
    m_sight_rows := He.glo_ok X Gm (c.d.fact 31 (f := .glo "sight_rows") rfl)
    f_sights_within := He.fAd K ("sights_within", none)
    fd_sights_within := fd12
    F_sights_within := F12
    m_sights_within := He.glo_ok X Gm (c.d.fact 32 (f := .glo "sights_within") rfl)
    f_open_rows := He.fAd K ("open_rows", none)
    fd_open_rows := fd13
    F_open_rows := F13
    m_open_rows := He.glo_ok X Gm (c.d.fact 33 (f := .glo "open_rows") rfl)
    f_open_paper := He.fAd K ("open_paper", none)
    fd_open_paper := fd14
    F_open_paper := F14
    m_open_paper := He.glo_ok X Gm (c.d.fact 34 (f := .glo "open_paper") rfl)
    f_Link___init__ := He.fAd K ("Link", some "__init__")
    fd_Link___init__ := fd15
    F_Link___init__ := F15
    f_least_length := He.fAd K ("least_length", none)
    fd_least_length := fd16
    F_least_length := F16
    m_least_length := He.glo_ok X Gm (c.d.fact 35 (f := .glo "least_length") rfl)
    f_is_within_loss := He.fAd K ("is_within_loss", none)
    fd_is_within_loss := fd17
    F_is_within_loss := F17
    m_is_within_loss := He.glo_ok X Gm (c.d.fact 36 (f := .glo "is_within_loss") rfl)
    f_need_loss := He.fAd K ("need_loss", none)
    fd_need_loss := fd18
    F_need_loss := F18
    m_need_loss := He.glo_ok X Gm (c.d.fact 37 (f := .glo "need_loss") rfl)
    f_rows_count := He.fAd K ("rows_count", none)
    fd_rows_count := fd19
    F_rows_count := F19
    m_rows_count := He.glo_ok X Gm (c.d.fact 38 (f := .glo "rows_count") rfl)
    f_page_count := He.fAd K ("page_count", none)
    fd_page_count := fd20
    F_page_count := F20
    m_page_count := He.glo_ok X Gm (c.d.fact 39 (f := .glo "page_count") rfl)
    f_lengths_by_modulus := He.fAd K ("lengths_by_modulus", none)
    fd_lengths_by_modulus := fd21
    F_lengths_by_modulus := F21
    m_lengths_by_modulus := He.glo_ok X Gm (c.d.fact 40 (f := .glo "lengths_by_modulus") rfl)
    f__law_box := He.fAd K ("_law_box", none)
    fd__law_box := fd22
    F__law_box := F22
    m__law_box := He.glo_ok X Gm (c.d.fact 41 (f := .glo "_law_box") rfl)
    f__law_take := He.fAd K ("_law_take", none)
    fd__law_take := fd23
    F__law_take := F23
    m__law_take := He.glo_ok X Gm (c.d.fact 42 (f := .glo "_law_take") rfl)
    f__law_pick := He.fAd K ("_law_pick", none)
    fd__law_pick := fd24
    F__law_pick := F24
    m__law_pick := He.glo_ok X Gm (c.d.fact 43 (f := .glo "_law_pick") rfl)
    f__law_tables := He.fAd K ("_law_tables", none)
    fd__law_tables := fd25
    F__law_tables := F25
    m__law_tables := He.glo_ok X Gm (c.d.fact 44 (f := .glo "_law_tables") rfl)
    f__law_led := He.fAd K ("_law_led", none)
    fd__law_led := fd26
    F__law_led := F26
    m__law_led := He.glo_ok X Gm (c.d.fact 45 (f := .glo "_law_led") rfl)
    f__law_rows := He.fAd K ("_law_rows", none)
    fd__law_rows := fd27
    F__law_rows := F27
    m__law_rows := He.glo_ok X Gm (c.d.fact 46 (f := .glo "_law_rows") rfl)
    f__law_right := He.fAd K ("_law_right", none)
    fd__law_right := fd28
    F__law_right := F28
    m__law_right := He.glo_ok X Gm (c.d.fact 47 (f := .glo "_law_right") rfl)
    f__law_pages := He.fAd K ("_law_pages", none)
    fd__law_pages := fd29
    F__law_pages := F29
    m__law_pages := He.glo_ok X Gm (c.d.fact 48 (f := .glo "_law_pages") rfl)
    f__law_curve_right := He.fAd K ("_law_curve_right", none)
    fd__law_curve_right := fd30
    F__law_curve_right := F30
    m__law_curve_right := He.glo_ok X Gm (c.d.fact 49 (f := .glo "_law_curve_right") rfl)
    f_Machine___init__ := He.fAd K ("Machine", some "__init__")
    fd_Machine___init__ := fd31
    F_Machine___init__ := F31
    f_law := He.fAd K ("law", none)
    fd_law := fd32
    F_law := F32
    c_law := (He.cT K ("law", none)).1
    p_law := (He.cT K ("law", none)).2
    k_law := codeAt_of F32
    m_law := He.glo_ok X Gm (c.d.fact 50 (f := .glo "law") rfl)
    f__law_heard := He.fAd K ("_law_heard", none)
    fd__law_heard := fd33
    F__law_heard := F33
    m__law_heard := He.glo_ok X Gm (c.d.fact 51 (f := .glo "_law_heard") rfl)
    mc_Machine := He.glo_ok X Gm (c.d.fact 52 (f := .glo "Machine") rfl)
    cls_Machine := He.cls_ok (c.d.fact 53 (f := .cls "Machine") rfl)
    na_Machine_tables := He.noat_ok (c.d.fact 54 (f := .noat "Machine" "tables") rfl)
    na_Machine_deeds := He.noat_ok (c.d.fact 55 (f := .noat "Machine" "deeds") rfl)
    na_Machine_states := He.noat_ok (c.d.fact 56 (f := .noat "Machine" "states") rfl)
    mk_Machine := He.mkr_ok (c.d.fact 57 (f := .mkr "Machine") rfl)
    mc_Link := He.glo_ok X Gm (c.d.fact 58 (f := .glo "Link") rfl)
    cls_Link := He.cls_ok (c.d.fact 59 (f := .cls "Link") rfl)
    na_Link_machine := He.noat_ok (c.d.fact 60 (f := .noat "Link" "machine") rfl)
    na_Link_first := He.noat_ok (c.d.fact 61 (f := .noat "Link" "first") rfl)
    na_Link_length := He.noat_ok (c.d.fact 62 (f := .noat "Link" "length") rfl)
    na_Link_loss := He.noat_ok (c.d.fact 63 (f := .noat "Link" "loss") rfl)
    na_Link_modulus := He.noat_ok (c.d.fact 64 (f := .noat "Link" "modulus") rfl)
    mk_Link := He.mkr_ok (c.d.fact 65 (f := .mkr "Link") rfl)
    r_Refused := c.rais 0 rfl ok_in_Refused (He.glo_ok X Gm (c.d.fact 66 (f := .glo "Refused") rfl)) (He.free_ok X Gm (c.d.fact 67 (f := .free "super") rfl))
    r_TooGreat := c.rais 1 rfl ok_in_TooGreat (He.glo_ok X Gm (c.d.fact 68 (f := .glo "TooGreat") rfl)) (He.free_ok X Gm (c.d.fact 67 (f := .free "super") rfl))
    r_NoState := c.rais 2 rfl ok_in_NoState (He.glo_ok X Gm (c.d.fact 69 (f := .glo "NoState") rfl)) (He.free_ok X Gm (c.d.fact 67 (f := .free "super") rfl))
    e__law_heard := (tbE_cons (exs_cons (He.exm_ok (c.d.fact 78 (f := .exm "Refused" "NoState" false) rfl)) (exs_cons (He.exm_ok (c.d.fact 77 (f := .exm "TooGreat" "NoState" false) rfl)) (exs_cons (He.exm_ok (c.d.fact 76 (f := .exm "NoState" "NoState" true) rfl)) exs_nil))) (tbE_cons (exs_cons (He.exm_ok (c.d.fact 75 (f := .exm "Refused" "TooGreat" false) rfl)) (exs_cons (He.exm_ok (c.d.fact 74 (f := .exm "TooGreat" "TooGreat" true) rfl)) (exs_cons (He.exm_ok (c.d.fact 73 (f := .exm "NoState" "TooGreat" false) rfl)) exs_nil))) (tbE_cons (exs_cons (He.exm_ok (c.d.fact 72 (f := .exm "Refused" "Refused" true) rfl)) (exs_cons (He.exm_ok (c.d.fact 71 (f := .exm "TooGreat" "Refused" false) rfl)) (exs_cons (He.exm_ok (c.d.fact 70 (f := .exm "NoState" "Refused" false) rfl)) exs_nil))) tbE_nil))) }, rfl, rfl, rfl⟩
end DL.K28
open PySem PySem.W PySem.Calls PyProof.Rows in
theorem PySem.Challenge.cw_pagesagain_k28_whole_lengths_by_modulus_holds : PySem.Challenge.rw_pagesagain_k28_whole_lengths_by_modulus.Holds := by
  w_on; o_law
  refine HandSHeadRun.head_any (r := DL.K28.rowR) (q := view DL.K28.rowR.prog [55]) (H := DL.K28.hkL) (ob := DL.K28.obL) (M := 3000) (loose := DL.K28.looseL) (d := HandSHeadRun.topDef DL.K28.rowR.prog 55) (kwd := []) DL.K28.obL_eq
    (by kernel_rfl) (fun s => by kernel_rfl) DL.K28.runL (by kernel_rfl) (by kernel_rfl) (by kernel_rfl) (by rfl) (by first | assumption | decide +kernel) (by decide +kernel) ⟨rfl, rfl, rfl, rfl, rfl, by decide +kernel⟩ ?hw ?hc
  case hw => w_witness2
  case hc =>
    refine DL.walk_ofTG (l := DL.K28.rowL) (n := 63) (k := 12) (x := "script") (CX := fun w => L2.CX DL.K28.rowL.prog w) rfl (by decide) (by kernel_rfl) ⟨rfl, by decide, by decide⟩ ?F (fun w H s e s' ⟨_, _, _, _, _, _, _, _, _, _, _, _, z⟩ => z)
    intro w mg fa h Y Gm hmg0
    obtain ⟨K, KX, c⟩ := Y
    have hmg : mg ("law" : PySem.Str) = some (.ref fa) := by
      have e : (HandSHeadRun.topDef DL.K28.rowR.prog 55).name = ("law" : PySem.Str) := by kernel_rfl
      rw [← e]
      exact hmg0
    letI : DL.Tbs := ⟨[((He.cT K ("law", none)).2, ("law" : PySem.Str) ++ ".<locals>." ++ "<lambda>")]⟩
    obtain ⟨Γ, hΓ, hc_law, hp_law⟩ := DL.K28.factsL KX Gm c
    have e := hmg.symm.trans Γ.m_law
    cases e
    refine ⟨K, Γ.fd_law, DL.spD K 1 (DL.K28.dc_law (He.ga K "Machine") (He.ga K "Link") (He.ga K "Refused") (He.ga K "TooGreat") (He.ga K "NoState")), [He.cT K ("law", none)], KX, fun p hp => ?_, fun p hp => ?_, fun p hp => ?_, fun s u => ?_, fun H a ns hl hT hS => DL.spD_lawT hS (fun p hp => ?_) (DL.K28.law_ok (Nat.le_trans hl (by decide)) rfl) DL.K28.dm_law, fun base h1 h2 h3 => ?_⟩
    · obtain ⟨q, hq, rfl⟩ := DL.mem_cT (tf := DL.K28.hdL.tf) hp
      exact c.nil q hq
    · obtain ⟨q, hq, rfl⟩ := DL.mem_cT (tf := DL.K28.hdL.tf) hp
      exact c.out q hq
    · obtain ⟨q, hq, rfl⟩ := DL.mem_cT (tf := DL.K28.hdL.tf) hp
      exact PySem.W.codeHd_of_K KX (c.hd q hq)
    · exact (L2.FunD.bindsA (ps := ["script"]) Γ.F_law fun _ _ _ _ _ _ us hl => match us, hl with | [_], _ => rfl) s [u] rfl
    · exact DL.tabS0 (DL.mem_tabs (l := [He.cT K ("law", none)]) (fun z hz => hT z hz) rfl hp)
    · exact DL.K28.ok_law Γ (by rw [hc_law, hp_law]; exact h3 _ (.head _)) (by rw [hp_law]; exact rfl)
