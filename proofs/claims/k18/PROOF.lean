import PyProof.Rows.All
import Wide.All
import OpenK.AllK
import Wide.FinOn
import KE.KStateDown
import Lean
import HandS.ForMost
import HandS.ForExc
import HandS.SetKeys
import KE.KeyNested
import PyProof.DictMoreH
import HandS.Evl
import HandS.Walk
import HandS.CallSlots
import HandS.Defaults
import HandS.TryMany
import HandS.More
import HandS.TupAny
import HandS.TupMul
import HandS.IsInst
import HandS.Style
import HandS.Zip
import KE.GoesEnum
import HandS.DictComp
import HandS.DictTup
import KE.KDictWalk
import HandS.SortInts
import HandS.HeadEnd
import PyProof.ReprRoads
import HandS.MakeKw
import HandS.Deep
import HandS.HeadHook2
import HandS.Head0
import HandS.Head1
import HandS.Head2
import HandS.HeadHook1
import PySem.Challenge.RW_pagesagain_k18_whole_rounds_against_all
set_option Elab.async false
set_option linter.all false
set_option maxRecDepth 100000
set_option maxHeartbeats 1000000
/-! DL0: dicts whose keys are ints and tuples of such, of any depth (to 8). -/
namespace DL
open PySem L2 PySem.Spec PyProof.Rows
mutual
def nkNum : NestedKey → Bool
  | .num _ => true
  | .tup ks => nkNums ks
  | .none => false
  | .text _ => false
def nkNums : List NestedKey → Bool
  | [] => true
  | k :: ks => nkNum k && nkNums ks
end
mutual
theorem nk_hash (w w' : World) : ∀ k : NestedKey, nkNum k = true → NestedKey.hash w k = NestedKey.hash w' k
  | .num _, _ => by simp [NestedKey.hash]
  | .tup ks, h => by
    rw [NestedKey.hash, NestedKey.hash, nk_hashes w w' ks (by simpa [nkNum] using h)]
  | .none, h => by simp [nkNum] at h
  | .text _, h => by simp [nkNum] at h
theorem nk_hashes (w w' : World) : ∀ ks : List NestedKey, nkNums ks = true → NestedKey.hashes w ks = NestedKey.hashes w' ks
  | [], _ => by simp [NestedKey.hashes]
  | k :: ks, h => by
    rw [nkNums, Bool.and_eq_true] at h
    rw [NestedKey.hashes, NestedKey.hashes, nk_hash w w' k h.1, nk_hashes w w' ks h.2]
end
mutual
/-- v is the key k -/
inductive KeyV (H : Hp) : NestedKey → V → Prop
  | num (i : Int) : KeyV H (.num i) (.int i)
  | tup {b : Addr} {vs : List V} {ks : List NestedKey} : H b = some (.tup vs) → KeyVs H ks vs → KeyV H (.tup ks) (.ref b)
inductive KeyVs (H : Hp) : List NestedKey → List V → Prop
  | nil : KeyVs H [] []
  | cons {k : NestedKey} {v : V} {ks : List NestedKey} {vs : List V} : KeyV H k v → KeyVs H ks vs → KeyVs H (k :: ks) (v :: vs)
end
section
variable {P : Program} {w : World} {H H' : Hp} {h : Heap}
mutual
theorem keyV_num : ∀ {k : NestedKey} {v : V}, KeyV H k v → nkNum k = true
  | .num _, _, .num _ => by simp [nkNum]
  | .tup ks, _, .tup _ t => by rw [nkNum]; exact keyVs_num t
theorem keyVs_num : ∀ {k : List NestedKey} {v : List V}, KeyVs H k v → nkNums k = true
  | [], _, .nil => by simp [nkNums]
  | _ :: _, _, .cons r t => by rw [nkNums, keyV_num r, keyVs_num t]; rfl
end
mutual
theorem keyV_is (ok : HOk P w H h) : ∀ {k : NestedKey} {v : V} {u : Value}, KeyV H k v → RelV v u → NestedIs h k u
  | .num i, _, u, .num _, r => by
    obtain ⟨t, e⟩ := (show ∃ t, u = Value.int i t from r)
    subst e
    exact .int i t
  | .tup ks, _, u, .tup (b := b) (vs := vs) hb t, r => by
    obtain rfl : u = Value.ref b := r
    obtain ⟨_, its, r2, o, h1, h2, n, h3⟩ := (show ObjOk P w H h b (.tup vs) from ok b _ hb)
    exact .tup h1 h2 h3 (by simpa using keyVs_is ok t r2)
theorem keyVs_is (ok : HOk P w H h) : ∀ {k : List NestedKey} {v : List V} {u : List Value}, KeyVs H k v → Vals v u → NestedAll h k u
  | [], _, _, .nil, r => by cases r; exact .nil
  | _ :: _, _, _, .cons q t, r => by
    cases r with
    | cons r1 r2 => exact .cons (keyV_is ok q r1) (keyVs_is ok t r2)
end
mutual
theorem keyV_mono (e : ∀ b vs, H b = some (.tup vs) → H' b = some (.tup vs)) : ∀ {k : NestedKey} {v : V}, KeyV H k v → KeyV H' k v
  | .num _, _, .num i => .num i
  | .tup _, _, .tup hb t => .tup (e _ _ hb) (keyVs_mono e t)
theorem keyVs_mono (e : ∀ b vs, H b = some (.tup vs) → H' b = some (.tup vs)) : ∀ {k : List NestedKey} {v : List V}, KeyVs H k v → KeyVs H' k v
  | [], _, .nil => .nil
  | _ :: _, _, .cons q t => .cons (keyV_mono e q) (keyVs_mono e t)
end
end
/-! ### the object -/
abbrev NW := List (NestedKey × Addr × V)
abbrev NX := List (NestedKey × Addr × Value)
abbrev KN : NW → NX → Prop := Paired fun p q => p.1 = q.1 ∧ p.2.1 = q.2.1 ∧ RelV p.2.2 q.2.2
def valN (ws : NW) (k : NestedKey) : Option V := (ws.find? fun p => decide (p.1 = k)).map (·.2.2)
def repN (k : NestedKey) (v : V) (p : NestedKey × Addr × V) : NestedKey × Addr × V := if p.1 = k then (p.1, p.2.1, v) else p
def putN (ws : NW) (k : NestedKey) (b : Addr) (v : V) : NW := if (valN ws k).isSome = true then ws.map (repN k v) else ws ++ [(k, b, v)]
def NdOk (a : Addr) (ws : NW) (h : Heap) : Prop :=
  (a == sysModules) = false ∧ ws.length ≤ sizeLine ∧ ∃ xs : NX, KN ws xs ∧ (xs.map (·.1)).Nodup ∧ ∃ o es ep, h.get? a = some o ∧ o.ExactDict ∧ o.data = .dict es ep ∧ ∀ (P : Program) (w : World), es.toList = xs.map (entryOfKey (nestedKind P w))
def ND (a : Addr) (ws : NW) : HO := .ext (NdOk a ws)
theorem KN.val {ws : NW} {xs : NX} (r : KN ws xs) (k : NestedKey) : RelO (valN ws k) ((atKey xs k).map (·.2)) := by
  induction r with
  | nil => exact True.intro
  | @cons p q ps qs h t ih =>
    obtain ⟨h1, _, h2⟩ := h
    by_cases e : p.1 = k
    · have e' : q.1 = k := h1.symm.trans e
      have b : atKey (q :: qs) k = some q.2 := by simp [atKey, List.find?_cons, e']
      have b2 : valN (p :: ps) k = some p.2.2 := by simp [valN, List.find?_cons, e]
      rw [b2, b]; exact h2
    · have e' : ¬ q.1 = k := fun z => e (h1.trans z)
      have b : atKey (q :: qs) k = atKey qs k := by simp [atKey, List.find?_cons, e']
      have b2 : valN (p :: ps) k = valN ps k := by simp [valN, List.find?_cons, e]
      rw [b2, b]; exact ih
theorem KN.repl {ws : NW} {xs : NX} (r : KN ws xs) (k : NestedKey) {y : V} {u : Value} (ry : RelV y u) : KN (ws.map (repN k y)) (xs.map (putAt k u)) := by
  induction r with
  | nil => exact .nil
  | @cons p q ps qs h t ih =>
    rw [List.map_cons, List.map_cons]
    refine .cons ?_ ih
    obtain ⟨h1, h2, h3⟩ := h
    unfold repN putAt
    by_cases e : p.1 = k
    · rw [if_pos e, if_pos (h1.symm.trans e)]; exact ⟨h1, h2, ry⟩
    · rw [if_neg e, if_neg (fun z => e (h1.trans z))]; exact ⟨h1, h2, h3⟩
theorem KN.put {ws : NW} {xs : NX} (r : KN ws xs) (k : NestedKey) {b : Addr} {y : V} {u : Value} (ry : RelV y u) : KN (putN ws k b y) (storedH xs k b u) := by
  have e : (valN ws k).isSome = (atKey xs k).isSome := by
    rw [(r.val k).isSome_eq, Option.isSome_map]
  unfold putN storedH
  rw [e]
  by_cases q : (atKey xs k).isSome = true
  · rw [if_pos q, if_pos q]; exact r.repl k ry
  · rw [if_neg q, if_neg q]; exact Paired.snoc r ⟨rfl, rfl, ry⟩
theorem KN.keys {ws : NW} {xs : NX} (r : KN ws xs) : ws.map (·.1) = xs.map (·.1) := by
  induction r with
  | nil => rfl
  | cons h t ih => rw [List.map_cons, List.map_cons, ih, h.1]
theorem length_putN (ws : NW) (k : NestedKey) (b : Addr) (v : V) : (putN ws k b v).length ≤ ws.length + 1 := by
  unfold putN
  split
  · simp
  · simp
/-- its keys -/
def NKeys (H : Hp) (ws : NW) : Prop := ∀ p ∈ ws, KeyV H p.1 (.ref p.2.1) ∧ p.1.depth ≤ 8
theorem NKeys.put {H : Hp} {ws : NW} {k : NestedKey} {b : Addr} {v : V} (n : NKeys H ws) (hk : KeyV H k (.ref b)) (hd : k.depth ≤ 8) : NKeys H (putN ws k b v) := by
  unfold putN
  split
  · intro p hp
    obtain ⟨q, hq, rfl⟩ := List.mem_map.mp hp
    unfold repN
    split
    · exact n q hq
    · exact n q hq
  · intro p hp
    rcases List.mem_append.mp hp with hp | hp
    · exact n p hp
    · rw [List.mem_singleton.mp hp]; exact ⟨hk, hd⟩
theorem NKeys.mono {H H' : Hp} {ws : NW} (e : ∀ b vs, H b = some (.tup vs) → H' b = some (.tup vs)) (n : NKeys H ws) : NKeys H' ws := fun p hp => ⟨keyV_mono e (n p hp).1, (n p hp).2⟩
section
variable {P : Program} {w : World} {H : Hp} {h : Heap} {a : Addr} {ws : NW}
theorem ndOk_keep {h' : Heap} (x : NdOk a ws h) (k : ∀ o, h.get? a = some o → h'.get? a = some o) : NdOk a ws h' := by
  obtain ⟨h1, h2, xs, h3, h4, o, es, ep, h5, h6⟩ := x
  exact ⟨h1, h2, xs, h3, h4, o, es, ep, k _ h5, h6⟩
theorem nd_obj (x : NdOk a ws h) : ObjOk P w H h a (ND a ws) := by
  have x' := x
  obtain ⟨_, _, _, _, _, o, _, _, h5, _⟩ := x'
  exact ⟨x, ⟨o, h5⟩, fun h1 h2 p k => ndOk_keep p k⟩
theorem nd_rd (ok : HOk P w H h) (e : Rd H a (ND a ws)) (hk : NKeys H ws) : (a == sysModules) = false ∧ ws.length ≤ sizeLine ∧ ∃ xs, KN ws xs ∧ h.DictOfH (nestedKind P w) a xs := by
  obtain ⟨⟨h1, h2, xs, h3, h4, o, es, ep, h5, h6, h7, h8⟩, _, _⟩ := (show ObjOk P w H h a (ND a ws) from rd_of ok e)
  refine ⟨h1, h2, xs, h3, o, es, ep, h5, h6, h7, h8 P w, ?_, h4⟩
  have all : ∀ {l : NW} {m : NX}, KN l m → NKeys H l → ∀ x ∈ m, (nestedKind P w).is h x.1 x.2.1 := by
    intro l m q
    induction q with
    | nil => intro _ x hx; exact nomatch hx
    | @cons p q ps qs hq t ih =>
      intro n x hx
      rcases List.mem_cons.mp hx with e | hx
      · subst e
        obtain ⟨n1, n2⟩ := n p (by simp)
        refine ⟨?_, ?_⟩
        · rw [← hq.1, ← hq.2.1]; exact keyV_is ok n1 rfl
        · rw [← hq.1]; exact n2
      · exact ih (fun y hy => n y (by simp [hy])) x hx
  exact all h3 hk
theorem nd_of {xs : NX} (hd : (a == sysModules) = false) (hl : ws.length ≤ sizeLine) (r : KN ws xs) (hn : ∀ p ∈ ws, nkNum p.1 = true) (x : h.DictOfH (nestedKind P w) a xs) : NdOk a ws h := by
  obtain ⟨o, es, ep, h5, h6, h7, h8, _, h4⟩ := x
  refine ⟨hd, hl, xs, r, h4, o, es, ep, h5, h6, h7, fun P' w' => ?_⟩
  rw [h8]
  refine List.map_congr_left fun x hx => ?_
  have hm : x.1 ∈ ws.map (·.1) := by rw [r.keys]; exact List.mem_map.mpr ⟨x, hx, rfl⟩
  obtain ⟨p, hp, e⟩ := List.mem_map.mp hm
  have hn' : nkNum x.1 = true := by rw [← e]; exact hn p hp
  show (⟨NestedKey.hash w x.1, .ref x.2.1, x.2.2⟩ : DictEntry) = ⟨NestedKey.hash w' x.1, .ref x.2.1, x.2.2⟩
  rw [nk_hash w w' x.1 hn']
theorem nd_empty (h : Heap) (hb : sysModules < h.objs.size) : NdOk h.objs.size [] (h.push { cls := .type "dict", data := .dict #[] }) :=
  ⟨beq_eq_false_iff_ne.mpr (Ne.symm (Nat.ne_of_lt hb)), Nat.zero_le _, [], .nil, List.nodup_nil, _, #[], 0, Heap.get?_push_size _ rfl, ⟨rfl, rfl, rfl⟩, rfl, fun _ _ => rfl⟩
end
/-! ### what is asked of it -/
section
variable {X : Cx} {pins : List (Addr × Obj)} {σ : L2.St} {H : Hp} {s : Shared} {a b : Addr} {v : V} {u r : Value} {k : NestedKey} {ws : NW} {A : Around} {E : Value → Shared → Prop}
theorem nd_typeIs (I : Inv X pins σ H s) (e : Rd H a (ND a ws)) (hk : NKeys H ws) : s.TypeIs (.ref a) "dict" := by
  obtain ⟨_, _, xs, _, dd⟩ := nd_rd I.hok e hk
  exact dd.typeIs
theorem nd_getItem {Q : Value → Shared → Prop} (hu : A.units + 9 < cLine) (I : Inv X pins σ H s) (e : Rd H a (ND a ws)) (hk : NKeys H ws) (kk : KeyV H k (.ref b)) (kd : k.depth ≤ 8) (l : valN ws k = some v) (h : ∀ w' s', Inv X pins σ H s' → RelV v w' → Q w' s') :
    wpAny (model X.prog X.w) A (getItem (.ref a) (.ref b)) Q E s := by
  obtain ⟨hd, z, xs, rel, dd⟩ := nd_rd I.hok e hk
  obtain ⟨w', hw, rw'⟩ := RelO.some_of (v := v) (o := (atKey xs k).map (·.2)) (by rw [← l]; exact rel.val k)
  obtain ⟨p, hp, hp2⟩ := Option.map_eq_some_iff.mp hw
  refine wpAny_getItem_heap (knd := nestedKind X.prog X.w) (show A.units + 1 + 8 < cLine by omega) ⟨keyV_is I.hok kk rfl, kd⟩ dd hp ?_
  rw [hp2]
  exact h w' _ (I.tok _) rw'
theorem nd_in {Q : Value → Shared → Prop} (hu : A.units + 9 < cLine) (I : Inv X pins σ H s) (e : Rd H a (ND a ws)) (hk : NKeys H ws) (kk : KeyV H k (.ref b)) (kd : k.depth ≤ 8) (h : ∀ s', Inv X pins σ H s' → Q (.bool (valN ws k).isSome) s') :
    wpAny (model X.prog X.w) A (compareOp .In (.ref b) (.ref a)) Q E s := by
  obtain ⟨hd, z, xs, rel, dd⟩ := nd_rd I.hok e hk
  refine wpAny_in_heap (knd := nestedKind X.prog X.w) (show A.units + 1 + 8 < cLine by omega) ⟨keyV_is I.hok kk rfl, kd⟩ hd dd ?_
  have q := (rel.val k).isSome_eq
  rw [Option.isSome_map] at q
  rw [← q]
  exact h _ (I.tok _)
theorem nd_notIn {Q : Value → Shared → Prop} (hu : A.units + 9 < cLine) (I : Inv X pins σ H s) (e : Rd H a (ND a ws)) (hk : NKeys H ws) (kk : KeyV H k (.ref b)) (kd : k.depth ≤ 8) (h : ∀ s', Inv X pins σ H s' → Q (.bool (!(valN ws k).isSome)) s') :
    wpAny (model X.prog X.w) A (compareOp .NotIn (.ref b) (.ref a)) Q E s := by
  obtain ⟨hd, z, xs, rel, dd⟩ := nd_rd I.hok e hk
  refine wpAny_notIn_heap (knd := nestedKind X.prog X.w) (show A.units + 1 + 8 < cLine by omega) ⟨keyV_is I.hok kk rfl, kd⟩ hd dd ?_
  have q := (rel.val k).isSome_eq
  rw [Option.isSome_map] at q
  rw [← q]
  exact h _ (I.tok _)
theorem nd_write {xs : NX} {h' : Heap} {t' : Nat} (I : Inv X pins σ H s) (e : H a = some (ND a ws)) (hd : (a == sysModules) = false) (hk : NKeys H ws) (kk : KeyV H k (.ref b)) (kd : k.depth ≤ 8) (hl : ws.length < sizeLine) (rel : KN ws xs) (rv : RelV v r)
    (dd : h'.DictOfH (nestedKind X.prog X.w) a (storedH xs k b r)) (hs : Heap.SameBut a s.heap h') : Inv X pins σ (upd H a (ND a (putN ws k b v))) { s with heap := h', toks := t' } := by
  have dd' := dd
  obtain ⟨q, _, _, hq, _⟩ := dd'
  refine d_write I (by rw [e]; exact True.intro) hs ⟨q, hq⟩ (nd_obj (nd_of hd ?_ (rel.put k rv) (fun p hp => keyV_num ((hk.put kk kd) p hp).1) dd))
  have := length_putN ws k b v
  omega
theorem nd_setItem {Q : Unit → Shared → Prop} (hu : A.units + 9 < cLine) (I : Inv X pins σ H s) (e : H a = some (ND a ws)) (hk : NKeys H ws) (kk : KeyV H k (.ref b)) (kd : k.depth ≤ 8) (hl : ws.length < sizeLine) (rv : RelV v r) (h : ∀ s', Inv X pins σ (upd H a (ND a (putN ws k b v))) s' → Q () s') :
    wpAny (model X.prog X.w) A (setItem (.ref a) (.ref b) r) Q E s := by
  obtain ⟨hd, z, xs, rel, dd⟩ := nd_rd I.hok (.inl e) hk
  have hz : xs.length ≤ sizeLine := by rw [← Paired.length rel]; exact z
  exact wpAny_setItem_heap (knd := nestedKind X.prog X.w) (hsz := hz) (show A.units + 1 + 8 < cLine by omega) ⟨keyV_is I.hok kk rfl, kd⟩ dd fun h' dd' hs => h _ (nd_write I e hd hk kk kd hl rel rv dd' hs)
theorem nd_setd {Q : Value → Shared → Prop} (hu : A.units + 9 < cLine) (I : Inv X pins σ H s) (e : H a = some (ND a ws)) (hk : NKeys H ws) (kk : KeyV H k (.ref b)) (kd : k.depth ≤ 8) (hl : ws.length < sizeLine) (rv : RelV v r)
    (h1 : ∀ v', valN ws k = some v' → ∀ (w' : Value) (s' : Shared), Inv X pins σ H s' → RelV v' w' → Q w' s') (h2 : valN ws k = none → ∀ (s' : Shared), Inv X pins σ (upd H a (ND a (putN ws k b v))) s' → Q r s') :
    wpAny (model X.prog X.w) A (call (.builtin "dict.setdefault") [.ref a, .ref b, r]) Q E s := by
  obtain ⟨hd, z, xs, rel, dd⟩ := nd_rd I.hok (.inl e) hk
  have hz : xs.length ≤ sizeLine := by rw [← Paired.length rel]; exact z
  have q := rel.val k
  refine call_meetsIn PySem.F.slot_dict_setdefault dd.typeIs PySem.F.entry_dict_setdefault (PySem.F.args_dict_setdefault_3 _ _ _) (meetsH_dict_setdefault (nestedKind X.prog X.w) a b hd r) ⟨show A.units + 1 + 8 < cLine by omega, k, xs, ⟨keyV_is I.hok kk rfl, kd⟩, dd, hz, fun p hp => ?_, fun hn h' dd' hs => ?_⟩
  · rw [hp] at q
    cases q0 : valN ws k with
    | none => rw [q0] at q; exact (show False from q).elim
    | some v0 => rw [q0] at q; exact h1 v0 q0 _ _ (I.tok _) q
  · rw [hn] at q
    cases q0 : valN ws k with
    | some v0 => rw [q0] at q; exact (show False from q).elim
    | none => exact h2 q0 _ (nd_write I e hd hk kk kd hl rel rv dd' hs)
end
end DL
set_option Elab.async false
set_option linter.all false
set_option maxRecDepth 100000
set_option maxHeartbeats 1000000
/-! DL1: data-level layer, part 1: data, what represents it, the state relation, the lifts. -/
namespace DL
open PySem L2 Evl

inductive D where
  | none | bool (b : Bool) | int (i : Int) | str (s : Str)
  | list (xs : List D) | tuple (xs : List D)
  | dict (kvs : List (Key × D)) | dictT (kvs : List (List Key × D)) | dictN (kvs : List (NestedKey × D))
  | ob (C : Addr) (lay : List Str) (xs : List D)
  | rol (xs : List D)

mutual
/-- a key as data -/
def nkD : NestedKey → D
  | .none => .none
  | .num i => .int i
  | .text x => .str x
  | .tup ks => .tuple (nkDs ks)
def nkDs : List NestedKey → List D
  | [] => []
  | k :: ks => nkD k :: nkDs ks
end
/-- frozen data -/
inductive Rep (K : PySem.W.Frag) (F : Hp) : V → D → Prop
  | none : Rep K F .non .none
  | bool (b : Bool) : Rep K F (.bl b) (.bool b)
  | int (i : Int) : Rep K F (.int i) (.int i)
  | str (s : Str) : Rep K F (.str s) (.str s)
  | rol {a : Addr} {vs : List V} {ds : List D} : SqL K F a vs → vs.length = ds.length → (∀ (i : Nat) (v : V) (d : D), vs[i]? = some v → ds[i]? = some d → Rep K F v d) → Rep K F (.ref a) (.rol ds)
  | list {a : Addr} {vs : List V} {ds : List D} : F a = some (.lst vs) → vs.length = ds.length → (∀ (i : Nat) (v : V) (d : D), vs[i]? = some v → ds[i]? = some d → Rep K F v d) → Rep K F (.ref a) (.list ds)
  | tuple {a : Addr} {vs : List V} {ds : List D} : F a = some (.tup vs) → vs.length = ds.length → (∀ (i : Nat) (v : V) (d : D), vs[i]? = some v → ds[i]? = some d → Rep K F v d) → Rep K F (.ref a) (.tuple ds)
  | dict {a : Addr} {kvs : List (Key × V)} {ds : List (Key × D)} : F a = some (.dK kvs) → kvs.length = ds.length → (∀ (i : Nat) (k : Key) (v : V) (l : Key) (d : D), kvs[i]? = some (k, v) → ds[i]? = some (l, d) → k = l) → (∀ (i : Nat) (k : Key) (v : V) (l : Key) (d : D), kvs[i]? = some (k, v) → ds[i]? = some (l, d) → Rep K F v d) → Rep K F (.ref a) (.dict ds)
  | dictT {a : Addr} {kvs : List (List Key × V)} {ds : List (List Key × D)} : F a = some (.dT kvs) → kvs.length = ds.length → (∀ (i : Nat) (k : List Key) (v : V) (l : List Key) (d : D), kvs[i]? = some (k, v) → ds[i]? = some (l, d) → k = l) → (∀ (i : Nat) (k : List Key) (v : V) (l : List Key) (d : D), kvs[i]? = some (k, v) → ds[i]? = some (l, d) → Rep K F v d) → Rep K F (.ref a) (.dictT ds)
  | dictN {a : Addr} {ws : NW} {ds : List (NestedKey × D)} : F a = some (ND a ws) → ws.length = ds.length → (∀ (i : Nat) (k : NestedKey) (b : Addr) (v : V) (l : NestedKey) (d : D), ws[i]? = some (k, b, v) → ds[i]? = some (l, d) → k = l ∧ k.depth ≤ 8 ∧ nkNum k = true) → (∀ (i : Nat) (k : NestedKey) (b : Addr) (v : V) (l : NestedKey) (d : D), ws[i]? = some (k, b, v) → ds[i]? = some (l, d) → Rep K F (.ref b) (nkD k)) →
      (∀ (i : Nat) (k : NestedKey) (b : Addr) (v : V) (l : NestedKey) (d : D), ws[i]? = some (k, b, v) → ds[i]? = some (l, d) → Rep K F v d) → Rep K F (.ref a) (.dictN ds)
  | ob {a C dx : Addr} {lay : List Str} {fs : List (Str × V)} {ds : List D} : F a = some (.ins C dx fs) → fs.map (·.1) = lay → (fs.map (·.2)).length = ds.length → (∀ (i : Nat) (v : V) (d : D), (fs.map (·.2))[i]? = some v → ds[i]? = some d → Rep K F v d) → Rep K F (.ref a) (.ob C lay ds)

/-- several -/
inductive Reps (K : PySem.W.Frag) (F : Hp) : List V → List D → Prop
  | nil : Reps K F [] []
  | cons {v : V} {vs : List V} {d : D} {ds : List D} : Rep K F v d → Reps K F vs ds → Reps K F (v :: vs) (d :: ds)
/-- with keys -/
inductive KReps {κ : Type} (K : PySem.W.Frag) (F : Hp) : List (κ × V) → List (κ × D) → Prop
  | nil : KReps K F [] []
  | cons {k : κ} {v : V} {vs : List (κ × V)} {d : D} {ds : List (κ × D)} : Rep K F v d → KReps K F vs ds → KReps K F ((k, v) :: vs) ((k, d) :: ds)
/-- with nested keys -/
inductive NReps (K : PySem.W.Frag) (F : Hp) : NW → List (NestedKey × D) → Prop
  | nil : NReps K F [] []
  | cons {k : NestedKey} {b : Addr} {v : V} {vs : NW} {d : D} {ds : List (NestedKey × D)} : k.depth ≤ 8 → nkNum k = true → Rep K F (.ref b) (nkD k) → Rep K F v d → NReps K F vs ds → NReps K F ((k, b, v) :: vs) ((k, d) :: ds)
section
variable {K : PySem.W.Frag} {F F' : Hp} {v : V} {d : D} {vs ws : List V} {ds es : List D}
theorem NReps.length : ∀ {vs : NW} {ds : List (NestedKey × D)}, NReps K F vs ds → vs.length = ds.length
  | _, _, .nil => rfl
  | _, _, .cons _ _ _ _ t => by simp [NReps.length t]
theorem NReps.get : ∀ {vs : NW} {ds : List (NestedKey × D)}, NReps K F vs ds → ∀ (i : Nat) (k : NestedKey) (b : Addr) (v : V) (l : NestedKey) (d : D), vs[i]? = some (k, b, v) → ds[i]? = some (l, d) → (k = l ∧ k.depth ≤ 8 ∧ nkNum k = true) ∧ Rep K F (.ref b) (nkD k) ∧ Rep K F v d
  | _, _, .nil, i, k, b, v, l, d, h, _ => by simp at h
  | _, _, .cons h1 h2 r1 r t, 0, k, b, v, l, d, h, g => by
    simp at h g
    obtain ⟨rfl, rfl, rfl⟩ := h
    obtain ⟨rfl, rfl⟩ := g
    exact ⟨⟨rfl, h1, h2⟩, r1, r⟩
  | _, _, .cons _ _ _ r t, i + 1, k, b, v, l, d, h, g => NReps.get t i k b v l d (by simpa using h) (by simpa using g)
theorem NReps.of : ∀ {vs : NW} {ds : List (NestedKey × D)}, vs.length = ds.length → (∀ (i : Nat) (k : NestedKey) (b : Addr) (v : V) (l : NestedKey) (d : D), vs[i]? = some (k, b, v) → ds[i]? = some (l, d) → (k = l ∧ k.depth ≤ 8 ∧ nkNum k = true) ∧ Rep K F (.ref b) (nkD k) ∧ Rep K F v d) → NReps K F vs ds
  | [], [], _, _ => .nil
  | (k, b, v) :: vs, (l, d) :: ds, hl, h => by
    obtain ⟨⟨rfl, h1, h2⟩, r1, r⟩ := h 0 k b v l d rfl rfl
    exact .cons h1 h2 r1 r (NReps.of (by simpa using hl) fun i k b v l d e g => h (i + 1) k b v l d (by simpa using e) (by simpa using g))
  | [], _ :: _, hl, _ => by simp at hl
  | _ :: _, [], hl, _ => by simp at hl
theorem Reps.length : ∀ {vs : List V} {ds : List D}, Reps K F vs ds → vs.length = ds.length
  | _, _, .nil => rfl
  | _, _, .cons _ t => by simp [Reps.length t]
theorem Reps.get : ∀ {vs : List V} {ds : List D}, Reps K F vs ds → ∀ (i : Nat) (v : V) (d : D), vs[i]? = some v → ds[i]? = some d → Rep K F v d
  | _, _, .nil, i, v, d, h, _ => by simp at h
  | _, _, .cons r t, 0, v, d, h, g => by simp at h g; subst h; subst g; exact r
  | _, _, .cons r t, i + 1, v, d, h, g => Reps.get t i v d (by simpa using h) (by simpa using g)
theorem Reps.of : ∀ {vs : List V} {ds : List D}, vs.length = ds.length → (∀ (i : Nat) (v : V) (d : D), vs[i]? = some v → ds[i]? = some d → Rep K F v d) → Reps K F vs ds
  | [], [], _, _ => .nil
  | v :: vs, d :: ds, hl, h => .cons (h 0 v d rfl rfl) (Reps.of (by simpa using hl) fun i v d e g => h (i + 1) v d (by simpa using e) (by simpa using g))
  | [], _ :: _, hl, _ => by simp at hl
  | _ :: _, [], hl, _ => by simp at hl
theorem KReps.length {κ : Type} : ∀ {vs : List (κ × V)} {ds : List (κ × D)}, KReps K F vs ds → vs.length = ds.length
  | _, _, .nil => rfl
  | _, _, .cons _ t => by simp [KReps.length t]
theorem KReps.get {κ : Type} : ∀ {vs : List (κ × V)} {ds : List (κ × D)}, KReps K F vs ds → ∀ (i : Nat) (k : κ) (v : V) (l : κ) (d : D), vs[i]? = some (k, v) → ds[i]? = some (l, d) → k = l ∧ Rep K F v d
  | _, _, .nil, i, k, v, l, d, h, _ => by simp at h
  | _, _, .cons r t, 0, k, v, l, d, h, g => by
    simp at h g
    obtain ⟨rfl, rfl⟩ := h
    obtain ⟨rfl, rfl⟩ := g
    exact ⟨rfl, r⟩
  | _, _, .cons r t, i + 1, k, v, l, d, h, g => KReps.get t i k v l d (by simpa using h) (by simpa using g)
theorem KReps.of {κ : Type} : ∀ {vs : List (κ × V)} {ds : List (κ × D)}, vs.length = ds.length → (∀ (i : Nat) (k : κ) (v : V) (l : κ) (d : D), vs[i]? = some (k, v) → ds[i]? = some (l, d) → k = l ∧ Rep K F v d) → KReps K F vs ds
  | [], [], _, _ => .nil
  | (k, v) :: vs, (l, d) :: ds, hl, h => by
    obtain ⟨rfl, r⟩ := h 0 k v l d rfl rfl
    exact .cons r (KReps.of (by simpa using hl) fun i k v l d e g => h (i + 1) k v l d (by simpa using e) (by simpa using g))
  | [], _ :: _, hl, _ => by simp at hl
  | _ :: _, [], hl, _ => by simp at hl
theorem Rep.mono (e : Ex F F') (h : Rep K F v d) : Rep K F' v d := by
  induction h with
  | none => exact .none
  | bool b => exact .bool b
  | int i => exact .int i
  | str s => exact .str s
  | rol hs hl _ ih => exact .rol (ex_l e hs) hl ih
  | list hs hl _ ih => exact .list (e _ _ hs) hl ih
  | tuple hs hl _ ih => exact .tuple (e _ _ hs) hl ih
  | dict ha hl h _ ih => exact .dict (e _ _ ha) hl h ih
  | dictT ha hl h _ ih => exact .dictT (e _ _ ha) hl h ih
  | dictN ha hl h _ _ ih1 ih2 => exact .dictN (e _ _ ha) hl h ih1 ih2
  | ob ha hy hl h ih => exact .ob (e _ _ ha) hy hl ih
theorem Reps.mono (e : Ex F F') : ∀ {vs : List V} {ds : List D}, Reps K F vs ds → Reps K F' vs ds
  | _, _, .nil => .nil
  | _, _, .cons r t => .cons (r.mono e) (Reps.mono e t)
theorem NReps.mono (e : Ex F F') : ∀ {vs : NW} {ds : List (NestedKey × D)}, NReps K F vs ds → NReps K F' vs ds
  | _, _, .nil => .nil
  | _, _, .cons h1 h2 r1 r t => .cons h1 h2 (r1.mono e) (r.mono e) (NReps.mono e t)
theorem KReps.mono {κ : Type} (e : Ex F F') : ∀ {vs : List (κ × V)} {ds : List (κ × D)}, KReps K F vs ds → KReps K F' vs ds
  | _, _, .nil => .nil
  | _, _, .cons r t => .cons (r.mono e) (KReps.mono e t)
theorem Rep.ro {a : Addr} (h : SqL K F a vs) (r : Reps K F vs ds) : Rep K F (.ref a) (.rol ds) := .rol h r.length r.get
theorem Rep.lst {a : Addr} (h : F a = some (.lst vs)) (r : Reps K F vs ds) : Rep K F (.ref a) (.list ds) := .list h r.length r.get
theorem Rep.tup {a : Addr} (h : F a = some (.tup vs)) (r : Reps K F vs ds) : Rep K F (.ref a) (.tuple ds) := .tuple h r.length r.get
theorem Rep.dic {a : Addr} {kvs : List (Key × V)} {es : List (Key × D)} (h : F a = some (.dK kvs)) (r : KReps K F kvs es) : Rep K F (.ref a) (.dict es) := .dict h r.length (fun i k v l d e g => (r.get i k v l d e g).1) (fun i k v l d e g => (r.get i k v l d e g).2)
theorem Rep.dicT {a : Addr} {kvs : List (List Key × V)} {es : List (List Key × D)} (h : F a = some (.dT kvs)) (r : KReps K F kvs es) : Rep K F (.ref a) (.dictT es) := .dictT h r.length (fun i k v l d e g => (r.get i k v l d e g).1) (fun i k v l d e g => (r.get i k v l d e g).2)
theorem Rep.dicN {a : Addr} {kvs : NW} {es : List (NestedKey × D)} (h : F a = some (ND a kvs)) (r : NReps K F kvs es) : Rep K F (.ref a) (.dictN es) := .dictN h r.length (fun i k b v l d e g => (r.get i k b v l d e g).1) (fun i k b v l d e g => (r.get i k b v l d e g).2.1) (fun i k b v l d e g => (r.get i k b v l d e g).2.2)
theorem Rep.obj {a C dx : Addr} {lay : List Str} {fs : List (Str × V)} (h : F a = some (.ins C dx fs)) (hl : fs.map (·.1) = lay) (r : Reps K F (fs.map (·.2)) ds) : Rep K F (.ref a) (.ob C lay ds) := .ob h hl r.length r.get
theorem Rep.rol_inv (h : Rep K F v (.rol ds)) : ∃ a vs, v = .ref a ∧ SqL K F a vs ∧ Reps K F vs ds := by
  cases h with
  | rol hs hl g => exact ⟨_, _, rfl, hs, .of hl g⟩
theorem Rep.list_inv (h : Rep K F v (.list ds)) : ∃ a vs, v = .ref a ∧ F a = some (.lst vs) ∧ Reps K F vs ds := by
  cases h with
  | list hs hl g => exact ⟨_, _, rfl, hs, .of hl g⟩
theorem Rep.tuple_inv (h : Rep K F v (.tuple ds)) : ∃ a vs, v = .ref a ∧ SqT K F a vs ∧ Reps K F vs ds := by
  cases h with
  | tuple hs hl g => exact ⟨_, _, rfl, .inl (.inl hs), .of hl g⟩
theorem Rep.tuple_inv2 (h : Rep K F v (.tuple ds)) : ∃ a vs, v = .ref a ∧ F a = some (.tup vs) ∧ Reps K F vs ds := by
  cases h with
  | tuple hs hl g => exact ⟨_, _, rfl, hs, .of hl g⟩
theorem Rep.dict_inv {es : List (Key × D)} (h : Rep K F v (.dict es)) : ∃ a kvs, v = .ref a ∧ F a = some (.dK kvs) ∧ KReps K F kvs es := by
  cases h with
  | dict hs hl g1 g2 => exact ⟨_, _, rfl, hs, .of hl fun i k v l d e g => ⟨g1 i k v l d e g, g2 i k v l d e g⟩⟩
theorem Rep.dictT_inv {es : List (List Key × D)} (h : Rep K F v (.dictT es)) : ∃ a kvs, v = .ref a ∧ F a = some (.dT kvs) ∧ KReps K F kvs es := by
  cases h with
  | dictT hs hl g1 g2 => exact ⟨_, _, rfl, hs, .of hl fun i k v l d e g => ⟨g1 i k v l d e g, g2 i k v l d e g⟩⟩
theorem Rep.dictN_inv {es : List (NestedKey × D)} (h : Rep K F v (.dictN es)) : ∃ a kvs, v = .ref a ∧ F a = some (ND a kvs) ∧ NReps K F kvs es := by
  cases h with
  | dictN hs hl g1 g2 g3 => exact ⟨_, _, rfl, hs, .of hl fun i k b v l d e g => ⟨g1 i k b v l d e g, g2 i k b v l d e g, g3 i k b v l d e g⟩⟩
theorem Rep.ob_inv {C : Addr} {lay : List Str} (h : Rep K F v (.ob C lay ds)) : ∃ a dx fs, v = .ref a ∧ F a = some (.ins C dx fs) ∧ fs.map (·.1) = lay ∧ Reps K F (fs.map (·.2)) ds := by
  cases h with
  | ob hs hy hl g => exact ⟨_, _, _, rfl, hs, hy, .of hl g⟩
theorem Rep.int_inv {i : Int} (h : Rep K F v (.int i)) : v = .int i := by cases h; rfl
theorem Rep.bool_inv {i : Bool} (h : Rep K F v (.bool i)) : v = .bl i := by cases h; rfl
theorem Rep.str_inv {i : Str} (h : Rep K F v (.str i)) : v = .str i := by cases h; rfl
theorem Rep.none_inv (h : Rep K F v .none) : v = .non := by cases h; rfl
theorem Reps.append : ∀ {vs ws : List V} {ds es : List D}, Reps K F vs ds → Reps K F ws es → Reps K F (vs ++ ws) (ds ++ es)
  | _, _, _, _, .nil, t => t
  | _, _, _, _, .cons r t, u => .cons r (Reps.append t u)
theorem Reps.get_some {vs : List V} {ds : List D} (r : Reps K F vs ds) {i : Nat} {d : D} (h : ds[i]? = some d) : ∃ v, vs[i]? = some v ∧ Rep K F v d := by
  have hi := (List.getElem?_eq_some_iff.mp h).1
  have hv : i < vs.length := by rw [r.length]; exact hi
  exact ⟨vs[i], by simp [hv], r.get i _ d (by simp [hv]) h⟩
theorem Reps.take : ∀ {vs : List V} {ds : List D} (n : Nat), Reps K F vs ds → Reps K F (vs.take n) (ds.take n)
  | _, _, 0, _ => .nil
  | _, _, _ + 1, .nil => .nil
  | _, _, n + 1, .cons r t => .cons r (Reps.take n t)
theorem Reps.drop : ∀ {vs : List V} {ds : List D} (n : Nat), Reps K F vs ds → Reps K F (vs.drop n) (ds.drop n)
  | _, _, 0, r => r
  | _, _, _ + 1, .nil => .nil
  | _, _, n + 1, .cons _ t => Reps.drop n t
theorem Reps.set {v : V} {d : D} (r : Rep K F v d) : ∀ {vs : List V} {ds : List D} (i : Nat), Reps K F vs ds → Reps K F (vs.set i v) (ds.set i d)
  | _, _, _, .nil => .nil
  | _, _, 0, .cons _ t => .cons r t
  | _, _, i + 1, .cons q t => .cons q (Reps.set r i t)
theorem Reps.reverse {vs : List V} {ds : List D} (r : Reps K F vs ds) : Reps K F vs.reverse ds.reverse := by
  induction r with
  | nil => exact .nil
  | cons r t ih => rw [List.reverse_cons, List.reverse_cons]; exact ih.append (.cons r .nil)
theorem Reps.flatten_replicate {vs : List V} {ds : List D} (r : Reps K F vs ds) : ∀ k : Nat, Reps K F (List.replicate k vs).flatten (List.replicate k ds).flatten
  | 0 => .nil
  | k + 1 => by rw [List.replicate_succ, List.replicate_succ, List.flatten_cons, List.flatten_cons]; exact r.append (Reps.flatten_replicate r k)
end

/-! ### what a slot holds -/
/-- what one owns: a list, a dict, an instance -/
inductive Ct where
  | lst (ds : List D)
  | dct (kvs : List (Key × D))
  | dctT (kvs : List (List Key × D))
  | dctN (kvs : List (NestedKey × D))
  | ins (C : Addr) (lay : List Str) (xs : List D)
inductive Sl where
  | un
  | fz (d : D)
  | ow (b : Bool) (c : Ct)
abbrev Env := List Sl
def Ct.d : Ct → D
  | .lst ds => .list ds
  | .dct kvs => .dict kvs
  | .dctT kvs => .dictT kvs
  | .dctN kvs => .dictN kvs
  | .ins C lay xs => .ob C lay xs
/-- the object o is that -/
def CtR (K : PySem.W.Frag) (F : Hp) (a : Addr) (o : HO) : Ct → Prop
  | .lst ds => ∃ vs, o = .lst vs ∧ Reps K F vs ds
  | .dct kvs => ∃ ws, o = .dK ws ∧ KReps K F ws kvs
  | .dctT kvs => ∃ ws, o = .dT ws ∧ KReps K F ws kvs
  | .dctN kvs => ∃ ws, o = ND a ws ∧ NReps K F ws kvs
  | .ins C lay xs => ∃ dx ws, o = .ins C dx ws ∧ ws.map (·.1) = lay ∧ Reps K F (ws.map (·.2)) xs
/-- the ground of a body: what the callers keep, what is frozen and all that there is at the entry, the slots then -/
structure Base where
  G : Hp
  F0 : Hp
  H0 : Hp
  s0 : L2.St
/-- at a an object that one owns -/
structure OwR (K : PySem.W.Frag) (B : Base) (F H : Hp) (a : Addr) (c : Ct) : Prop where
  nf : F a = none
  ng : B.G a = none
  ob : ∃ o, H a = some o ∧ CtR K F a o c
def SlR (K : PySem.W.Frag) (B : Base) (F H : Hp) (i : Nat) (o : Option (Option V)) : Sl → Prop
  | .un => True
  | .fz d => ∃ v, o = some (some v) ∧ Rep K F v d
  | .ow b c => ∃ a, o = some (some (.ref a)) ∧ OwR K B F H a c ∧ (b = false → B.H0 a = none) ∧ (b = true → B.s0[i]? = o)
def isOw : Sl → Bool
  | .ow _ _ => true
  | _ => false
def isD : HO → Prop
  | .dK _ => True
  | .dT _ => True
  | .ext _ => True
  | _ => False
/-- what is frozen stands; a dict may be locked -/
def ExL (F H : Hp) : Prop := ∀ a u, F a = some u → H a = some u ∨ (isD u ∧ ∃ o, H a = some (.frz o u))
theorem ExL.back {F H : Hp} {a : Addr} (e : ExL F H) (h : H a = none) : F a = none := by
  cases q : F a with
  | none => rfl
  | some u =>
    rcases e a u q with z | ⟨_, o, z⟩
    · rw [h] at z; cases z
    · rw [h] at z; cases z
theorem ExL.on {F H : Hp} {a : Addr} {u : HO} (e : ExL F H) (h : F a = some u) (n : ¬ isD u := by exact fun z => z) : H a = some u := by
  rcases e a u h with z | ⟨z, _⟩
  · exact z
  · exact absurd z n
theorem ExL.rd {F H : Hp} {a : Addr} {u : HO} (e : ExL F H) (h : F a = some u) : Rd H a u := by
  rcases e a u h with z | ⟨_, o, z⟩
  · exact .inl z
  · exact .inr ⟨o, z⟩
theorem ExL.of {F H : Hp} (e : Ex F H) : ExL F H := fun a u h => .inl (e a u h)
theorem ExL.upd {F H : Hp} {p : Addr} {o : HO} (e : ExL F H) (fp : F p = none) : ExL F (upd H p o) := fun a u h => by
  have q : a ≠ p := fun z => by rw [z, fp] at h; cases h
  rw [upd_ne q]; exact e a u h
theorem ExL.both {F H : Hp} {p : Addr} {o : HO} (e : ExL F H) : ExL (L2.upd F p o) (L2.upd H p o) := fun a u h => by
  by_cases q : a = p
  · subst q; rw [upd_same] at h ⊢; exact .inl h
  · rw [upd_ne q] at h ⊢; exact e a u h
theorem ExL.trans {F F' H : Hp} (e : Ex F F') (e2 : ExL F' H) : ExL F H := fun a u h => e2 a u (e a u h)
theorem xl_l {K : PySem.W.Frag} {F H : Hp} {a : Addr} {xs : List V} (e : ExL F H) (h : SqL K F a xs) : SqL K H a xs := by
  rcases h with (h | ⟨o, h⟩) | h
  · exact .inl (.inl (e.on h))
  · exact .inl (.inr ⟨o, e.on h⟩)
  · exact .inr h
theorem xl_t {K : PySem.W.Frag} {F H : Hp} {a : Addr} {xs : List V} (e : ExL F H) (h : SqT K F a xs) : SqT K H a xs := by
  rcases h with (h | ⟨o, h⟩) | h
  · exact .inl (.inl (e.on h))
  · exact .inl (.inr ⟨o, e.on h⟩)
  · exact .inr h
/-- what was there is there; a tuple was a tuple -/
def Thr (H0 H : Hp) : Prop := ∀ a, (H0 a ≠ none → H a ≠ none) ∧ ∀ vs, H a = some (.tup vs) → H0 a = none ∨ ∃ ws, H0 a = some (.tup ws)
theorem Thr.upd {H0 H : Hp} {p : Addr} {o : HO} (t : Thr H0 H) (h : ∀ vs, o = .tup vs → H0 p = none) : Thr H0 (L2.upd H p o) := fun a => by
  by_cases q : a = p
  · subst q
    rw [upd_same]
    exact ⟨fun _ z => by (cases z), fun vs z => .inl (h vs (by simpa using z))⟩
  · rw [upd_ne q]; exact t a
theorem Thr.prot {H0 H : Hp} {p : Addr} {o : HO} (t : Thr H0 H) (h : H p = some o) : Thr (L2.upd H0 p o) H := fun a => by
  by_cases q : a = p
  · subst q
    rw [upd_same]
    exact ⟨fun _ z => by (rw [h] at z; cases z), fun vs z => .inr ⟨vs, by rw [← h, z]⟩⟩
  · rw [upd_ne q]; exact t a
theorem Thr.unprot {H0 H : Hp} {p : Addr} {o : HO} (t : Thr (L2.upd H0 p o) H) (h : H p = some o) (n : ∀ vs, o ≠ .tup vs) : Thr H0 H := fun a => by
  by_cases q : a = p
  · subst q
    exact ⟨fun _ z => by (rw [h] at z; cases z), fun vs z => absurd (by (rw [h] at z; simpa using z)) (n vs)⟩
  · have := t a
    rw [upd_ne q] at this; exact this
theorem Thr.refl (H : Hp) : Thr H H := fun a => ⟨fun h => h, fun vs h => .inr ⟨vs, h⟩⟩
theorem Thr.trans {H0 H H' : Hp} (t : Thr H0 H) (t2 : Thr H H') : Thr H0 H' := fun a => ⟨fun h => (t2 a).1 ((t a).1 h), fun vs z => by
  rcases (t2 a).2 vs z with q | ⟨ws, q⟩
  · cases r : H0 a with
    | none => exact .inl rfl
    | some u => exact absurd q ((t a).1 (by rw [r]; simp))
  · exact (t a).2 ws q⟩
/-- may be frozen: new, or a tuple -/
def N0 (B : Base) (a : Addr) : Prop := B.H0 a = none ∨ ∃ vs, B.H0 a = some (.tup vs)
theorem CtR.noTup {K : PySem.W.Frag} {F : Hp} {a : Addr} {o : HO} {c : Ct} (h : CtR K F a o c) : ∀ vs, o ≠ .tup vs := fun vs z => by
  subst z
  cases c with
  | lst ds => obtain ⟨_, e, _⟩ := h; cases e
  | dct kvs => obtain ⟨_, e, _⟩ := h; cases e
  | dctT kvs => obtain ⟨_, e, _⟩ := h; cases e
  | dctN kvs => obtain ⟨_, e, _⟩ := h; unfold ND at e; cases e
  | ins C lay xs => obtain ⟨_, _, e, _⟩ := h; cases e
structure St (K : PySem.W.Frag) (B : Base) (F : Hp) (ρ : Env) (σ : L2.St) (H : Hp) : Prop where
  ex : ExL F H
  out : Ex B.G H
  new : ∀ a, F a ≠ none → B.F0 a ≠ none ∨ N0 B a
  ge : Ex B.F0 F
  thr : Thr B.H0 H
  len : σ.length = ρ.length
  sl : ∀ i, SlR K B F H i σ[i]? (ρ.getD i .un)
  own : ∀ i j a, isOw (ρ.getD i .un) = true → isOw (ρ.getD j .un) = true → σ[i]? = some (some (.ref a)) → σ[j]? = some (some (.ref a)) → i = j
section
variable {K : PySem.W.Frag} {B : Base} {F F' : Hp} {ρ ρ' : Env} {σ : L2.St} {H H' : Hp}
theorem St.there (S : St K B F ρ σ H) (a : Addr) (h : B.H0 a ≠ none) : H a ≠ none := (S.thr a).1 h
theorem St.fresh0 (S : St K B F ρ σ H) {p : Addr} (hp : H p = none) : B.H0 p = none := by
  cases hh : B.H0 p with
  | none => rfl
  | some u => exact absurd hp (S.there p (by rw [hh]; simp))
theorem St.n0 (S : St K B F ρ σ H) {p : Addr} {vs : List V} (h : H p = some (.tup vs)) : N0 B p := (S.thr p).2 vs h
theorem CtR.mono {a : Addr} {o : HO} {c : Ct} (e : Ex F F') (h : CtR K F a o c) : CtR K F' a o c := by
  cases c with
  | lst ds => obtain ⟨vs, e1, r⟩ := h; exact ⟨vs, e1, r.mono e⟩
  | dct kvs => obtain ⟨vs, e1, r⟩ := h; exact ⟨vs, e1, r.mono e⟩
  | dctT kvs => obtain ⟨vs, e1, r⟩ := h; exact ⟨vs, e1, r.mono e⟩
  | dctN kvs => obtain ⟨vs, e1, r⟩ := h; exact ⟨vs, e1, r.mono e⟩
  | ins C lay xs => obtain ⟨dx, vs, e1, e2, r⟩ := h; exact ⟨dx, vs, e1, e2, r.mono e⟩
theorem St.fz (S : St K B F ρ σ H) {i : Nat} {d : D} (h : ρ.getD i .un = .fz d) : ∃ v, σ[i]? = some (some v) ∧ Rep K F v d := by
  have := S.sl i
  rw [h] at this
  exact this
theorem St.ow (S : St K B F ρ σ H) {i : Nat} {b : Bool} {c : Ct} (h : ρ.getD i .un = .ow b c) :
    ∃ a, σ[i]? = some (some (.ref a)) ∧ OwR K B F H a c ∧ (b = false → B.H0 a = none) ∧ (b = true → B.s0[i]? = σ[i]?) := by
  have := S.sl i
  rw [h] at this
  exact this
/-- a new frozen object -/
theorem St.alloc (S : St K B F ρ σ H) {p : Addr} {o : HO} (hp : H p = none) : Ex F (upd F p o) ∧ St K B (upd F p o) ρ σ (upd H p o) := by
  have fp : F p = none := S.ex.back hp
  have e : Ex F (upd F p o) := Ex.new fp
  refine ⟨e, ⟨S.ex.both, fun a u h => ?_, fun a h => ?_, S.ge.trans e, S.thr.upd fun _ _ => S.fresh0 hp, S.len, fun i => ?_, S.own⟩⟩
  · have : a ≠ p := ne_of_none (S.out a u h) hp
    rw [upd_ne this]; exact S.out a u h
  · by_cases q : a = p
    · subst q
      exact .inr (.inl (S.fresh0 hp))
    · rw [upd_ne q] at h; exact S.new a h
  · have s := S.sl i
    cases hs : ρ.getD i .un with
    | un => trivial
    | fz d => rw [hs] at s; obtain ⟨v, e1, r⟩ := s; exact ⟨v, e1, r.mono e⟩
    | ow b c =>
      rw [hs] at s
      obtain ⟨a, e1, ⟨nf, ng, u, hu, hc⟩, h2, h3⟩ := s
      have : a ≠ p := ne_of_none hu hp
      exact ⟨a, e1, ⟨by rw [upd_ne this]; exact nf, ng, u, by rw [upd_ne this]; exact hu, hc.mono e⟩, h2, h3⟩
/-- a new object of one's own, not yet in a slot -/
theorem St.keepNew (S : St K B F ρ σ H) {p : Addr} {o : HO} (hp : H p = none) : St K B F ρ σ (upd H p o) ∧ F p = none ∧ B.G p = none ∧ B.H0 p = none := by
  have fp : F p = none := S.ex.back hp
  have hp0 : B.H0 p = none := by
    cases hh : B.H0 p with
    | none => rfl
    | some u => exact absurd hp (S.there p (by rw [hh]; simp))
  refine ⟨⟨S.ex.upd fp, fun a u h => ?_, S.new, S.ge, S.thr.upd fun _ _ => hp0, S.len, fun i => ?_, S.own⟩, fp, fresh_back S.out hp, hp0⟩
  · rw [upd_ne (ne_of_none (S.out a u h) hp)]; exact S.out a u h
  · have s := S.sl i
    cases hs : ρ.getD i .un with
    | un => trivial
    | fz d => rw [hs] at s; exact s
    | ow b c =>
      rw [hs] at s
      obtain ⟨a, e1, ⟨nf, ng, u, hu, hc⟩, h2, h3⟩ := s
      exact ⟨a, e1, ⟨nf, ng, u, by rw [upd_ne (ne_of_none hu hp)]; exact hu, hc⟩, h2, h3⟩
/-- what is owned becomes frozen -/
theorem OwR.freeze {a : Addr} {c : Ct} {o : HO} (h : CtR K F a o c) (hF : F' a = some o) (e : Ex F F') : Rep K F' (.ref a) c.d := by
  cases c with
  | lst ds => obtain ⟨vs, rfl, r⟩ := h; exact .lst hF (r.mono e)
  | dct kvs => obtain ⟨vs, rfl, r⟩ := h; exact .dic hF (r.mono e)
  | dctT kvs => obtain ⟨vs, rfl, r⟩ := h; exact .dicT hF (r.mono e)
  | dctN kvs => obtain ⟨vs, rfl, r⟩ := h; exact .dicN hF (r.mono e)
  | ins C lay xs => obtain ⟨dx, vs, rfl, hy, r⟩ := h; exact .obj hF hy (r.mono e)
/-- an object that stands, nobody's slot's, becomes frozen -/
theorem St.freezeAt (S : St K B F ρ σ H) {p : Addr} {o : HO} (hp : H p = some o) (fp : F p = none) (h0 : N0 B p) (no : ∀ i, isOw (ρ.getD i .un) = true → σ[i]? ≠ some (some (.ref p))) :
    Ex F (upd F p o) ∧ St K B (upd F p o) ρ σ H := by
  have e : Ex F (upd F p o) := Ex.new fp
  refine ⟨e, ⟨fun a u h => ?_, S.out, fun a h => ?_, S.ge.trans e, S.thr, S.len, fun i => ?_, S.own⟩⟩
  · by_cases q : a = p
    · subst q; rw [upd_same] at h; rw [hp]; exact .inl h
    · rw [upd_ne q] at h; exact S.ex a u h
  · by_cases q : a = p
    · subst q; exact .inr h0
    · rw [upd_ne q] at h; exact S.new a h
  · have s := S.sl i
    cases hs : ρ.getD i .un with
    | un => trivial
    | fz d => rw [hs] at s; obtain ⟨v, e1, r⟩ := s; exact ⟨v, e1, r.mono e⟩
    | ow b c =>
      rw [hs] at s
      obtain ⟨a, e1, ⟨nf, ng, u, hu, hc⟩, h2, h3⟩ := s
      have : a ≠ p := fun z => no i (by rw [hs]; rfl) (by rw [e1, z])
      exact ⟨a, e1, ⟨by rw [upd_ne this]; exact nf, ng, u, hu, hc.mono e⟩, h2, h3⟩
theorem getD_set_self {ρ : Env} {i : Nat} {s t : Sl} (h : i < ρ.length) : (ρ.set i s).getD i t = s := by
  simp [List.getD, List.getElem?_set_self h]
theorem getD_set_ne {ρ : Env} {i j : Nat} {s t : Sl} (h : i ≠ j) : (ρ.set i s).getD j t = ρ.getD j t := by
  simp [List.getD, List.getElem?_set_ne h]
theorem lt_of_getD {ρ : Env} {i : Nat} (h : isOw (ρ.getD i .un) = true) : i < ρ.length := by
  by_cases q : i < ρ.length
  · exact q
  · rw [List.getD, List.getElem?_eq_none (by omega)] at h; cases h
/-- the slots weakened: an owned one given up -/
theorem St.drop (S : St K B F ρ σ H) (i : Nat) : St K B F (ρ.set i .un) σ H := by
  refine ⟨S.ex, S.out, S.new, S.ge, S.thr, by simpa using S.len, fun j => ?_, fun j k a h1 h2 e1 e2 => ?_⟩
  · by_cases q : i = j
    · subst q
      by_cases hl : i < ρ.length
      · rw [getD_set_self hl]; trivial
      · rw [List.set_eq_of_length_le (by omega)]; exact S.sl i
    · rw [getD_set_ne q]; exact S.sl j
  · have hj : isOw (ρ.getD j .un) = true := by
      by_cases q : i = j
      · subst q
        by_cases hl : i < ρ.length
        · rw [getD_set_self hl] at h1; cases h1
        · rw [List.set_eq_of_length_le (by omega)] at h1; exact h1
      · rw [getD_set_ne q] at h1; exact h1
    have hk : isOw (ρ.getD k .un) = true := by
      by_cases q : i = k
      · subst q
        by_cases hl : i < ρ.length
        · rw [getD_set_self hl] at h2; cases h2
        · rw [List.set_eq_of_length_le (by omega)] at h2; exact h2
      · rw [getD_set_ne q] at h2; exact h2
    exact S.own j k a hj hk e1 e2
/-- a slot that holds a frozen thing -/
theorem St.set_fz (S : St K B F ρ σ H) {i : Nat} {v : V} {d : D} (hs : i < σ.length) (hr : i < ρ.length) (r : Rep K F v d) : St K B F (ρ.set i (.fz d)) (σ.set i (some v)) H := by
  refine ⟨S.ex, S.out, S.new, S.ge, S.thr, by simpa using S.len, fun j => ?_, fun j k a h1 h2 e1 e2 => ?_⟩
  · by_cases q : i = j
    · subst q
      rw [getD_set_self hr, List.getElem?_set_self hs]
      exact ⟨v, rfl, r⟩
    · rw [getD_set_ne q, List.getElem?_set_ne q]; exact S.sl j
  · have hij : i ≠ j := fun q => by subst q; rw [getD_set_self hr] at h1; cases h1
    have hik : i ≠ k := fun q => by subst q; rw [getD_set_self hr] at h2; cases h2
    rw [getD_set_ne hij] at h1
    rw [getD_set_ne hik] at h2
    rw [List.getElem?_set_ne hij] at e1
    rw [List.getElem?_set_ne hik] at e2
    exact S.own j k a h1 h2 e1 e2
/-- a slot that holds a new object of one's own -/
theorem St.set_ow (S : St K B F ρ σ H) {i : Nat} {p : Addr} {c : Ct} (hs : i < σ.length) (hr : i < ρ.length) (o : OwR K B F H p c) (h0 : B.H0 p = none) (no : ∀ j, j ≠ i → isOw (ρ.getD j .un) = true → σ[j]? ≠ some (some (.ref p))) :
    St K B F (ρ.set i (.ow false c)) (σ.set i (some (.ref p))) H := by
  refine ⟨S.ex, S.out, S.new, S.ge, S.thr, by simpa using S.len, fun j => ?_, fun j k a h1 h2 e1 e2 => ?_⟩
  · by_cases q : i = j
    · subst q
      rw [getD_set_self hr, List.getElem?_set_self hs]
      exact ⟨p, rfl, o, fun _ => h0, fun z => by cases z⟩
    · rw [getD_set_ne q, List.getElem?_set_ne q]; exact S.sl j
  · by_cases hij : i = j
    · subst hij
      by_cases hik : i = k
      · exact hik
      · rw [getD_set_ne hik] at h2
        rw [List.getElem?_set_ne hik] at e2
        rw [List.getElem?_set_self hs] at e1
        have : p = a := by simpa using e1
        subst this
        exact absurd e2 (no k (fun z => hik z.symm) h2)
    · rw [getD_set_ne hij] at h1
      rw [List.getElem?_set_ne hij] at e1
      by_cases hik : i = k
      · subst hik
        rw [List.getElem?_set_self hs] at e2
        have : p = a := by simpa using e2
        subst this
        exact absurd e1 (no j (fun z => hij z.symm) h1)
      · rw [getD_set_ne hik] at h2
        rw [List.getElem?_set_ne hik] at e2
        exact S.own j k a h1 h2 e1 e2
/-- an owned object is written -/
theorem St.write (S : St K B F ρ σ H) {i : Nat} {b : Bool} {c c' : Ct} {a : Addr} {o : HO} (h : ρ.getD i .un = .ow b c) (ha : σ[i]? = some (some (.ref a))) (r : CtR K F a o c') :
    St K B F (ρ.set i (.ow b c')) σ (upd H a o) := by
  obtain ⟨a', e1, ⟨nf, ng, u, hu, hc⟩, h2, h3⟩ := S.ow h
  rw [ha] at e1
  have : a = a' := by simpa using e1
  subst this
  have hr : i < ρ.length := lt_of_getD (by rw [h]; rfl)
  refine ⟨S.ex.upd nf, fun x w hx => ?_, S.new, S.ge, S.thr.upd fun vs z => absurd z (r.noTup vs), by simpa using S.len, fun j => ?_, fun j k x h1 h2 e1 e2 => ?_⟩
  · have : x ≠ a := fun z => by rw [z, ng] at hx; cases hx
    rw [upd_ne this]; exact S.out x w hx
  · by_cases q : i = j
    · subst q
      rw [getD_set_self hr]
      exact ⟨a, ha, ⟨nf, ng, o, upd_same, r⟩, h2, h3⟩
    · rw [getD_set_ne q]
      have s := S.sl j
      cases hs : ρ.getD j .un with
      | un => trivial
      | fz d => rw [hs] at s; exact s
      | ow b' c2 =>
        rw [hs] at s
        obtain ⟨a2, e2, ⟨nf2, ng2, u2, hu2, hc2⟩, g2, g3⟩ := s
        have : a2 ≠ a := fun z => q (S.own i j a (by rw [h]; rfl) (by rw [hs]; rfl) ha (by rw [e2, z]))
        exact ⟨a2, e2, ⟨nf2, ng2, u2, by rw [upd_ne this]; exact hu2, hc2⟩, g2, g3⟩
  · have f : ∀ j, isOw ((ρ.set i (.ow b c')).getD j .un) = true → isOw (ρ.getD j .un) = true := fun j hj => by
      by_cases q : i = j
      · subst q; rw [h]; rfl
      · rw [getD_set_ne q] at hj; exact hj
    exact S.own j k x (f j h1) (f k h2) e1 e2
/-- a slot's owned object is frozen where it stands -/
theorem St.freezeSlot (S : St K B F ρ σ H) {i : Nat} {c : Ct} (h : ρ.getD i .un = .ow false c) : ∃ v F', σ[i]? = some (some v) ∧ Ex F F' ∧ Rep K F' v c.d ∧ St K B F' (ρ.set i (.fz c.d)) σ H := by
  obtain ⟨a, e1, ⟨nf, ng, o, ho, hc⟩, h2, h3⟩ := S.ow h
  have hr : i < ρ.length := lt_of_getD (by rw [h]; rfl)
  have hs : i < σ.length := (List.getElem?_eq_some_iff.mp e1).1
  have S1 := S.drop i
  have no : ∀ j, isOw ((ρ.set i .un).getD j .un) = true → σ[j]? ≠ some (some (.ref a)) := fun j hj z => by
    by_cases q : i = j
    · subst q; rw [getD_set_self hr] at hj; cases hj
    · rw [getD_set_ne q] at hj
      exact q (S.own i j a (by rw [h]; rfl) hj e1 z)
  obtain ⟨e, S2⟩ := S1.freezeAt ho nf (.inl (h2 rfl)) no
  have r : Rep K (upd F a o) (.ref a) c.d := OwR.freeze hc upd_same e
  have S3 := S2.set_fz (i := i) (v := .ref a) (d := c.d) hs (by simpa using hr) r
  rw [List.set_set] at S3
  have hσ : σ.set i (some (.ref a)) = σ := by
    apply List.ext_getElem?
    intro j
    by_cases q : i = j
    · subst q; rw [List.getElem?_set_self hs, e1]
    · rw [List.getElem?_set_ne q]
  rw [hσ] at S3
  exact ⟨.ref a, _, e1, e, r, S3⟩
/-- the ground with one thing more that stays -/
def Base.prot (B : Base) (a : Addr) (o : HO) : Base := ⟨upd B.G a o, B.F0, upd B.H0 a o, B.s0⟩
theorem St.prot (S : St K B F ρ σ H) {a : Addr} {o : HO} (ha : H a = some o) (fa : F a = none) (no : ∀ j, isOw (ρ.getD j .un) = true → σ[j]? ≠ some (some (.ref a))) : St K (B.prot a o) F ρ σ H := by
  refine ⟨S.ex, fun x u hx => ?_, fun x hx => ?_, S.ge, S.thr.prot ha, S.len, fun j => ?_, S.own⟩
  · by_cases q : x = a
    · subst q
      have hx : upd B.G x o x = some u := hx
      rw [upd_same] at hx; rw [ha]; exact hx
    · have hx : upd B.G a o x = some u := hx
      rw [upd_ne q] at hx; exact S.out x u hx
  · have q : x ≠ a := fun z => by rw [z] at hx; exact hx fa
    show B.F0 x ≠ none ∨ upd B.H0 a o x = none ∨ ∃ vs, upd B.H0 a o x = some (.tup vs)
    rw [upd_ne q]; exact S.new x hx
  · have s := S.sl j
    cases hs : ρ.getD j .un with
    | un => trivial
    | fz d => rw [hs] at s; exact s
    | ow b c =>
      rw [hs] at s
      obtain ⟨a2, e2, ⟨nf2, ng2, u2, hu2, hc2⟩, g2, g3⟩ := s
      have q : a2 ≠ a := fun z => no j (by rw [hs]; rfl) (by rw [e2, z])
      refine ⟨a2, e2, ⟨nf2, ?_, u2, hu2, hc2⟩, fun hb => ?_, g3⟩
      · show upd B.G a o a2 = none
        rw [upd_ne q]; exact ng2
      · show upd B.H0 a o a2 = none
        rw [upd_ne q]; exact g2 hb
theorem St.unprot {a : Addr} {o : HO} (S : St K (B.prot a o) F ρ σ H) (ng : B.G a = none) (f0 : B.F0 a = none) (nt : ∀ vs, o ≠ .tup vs) : St K B F ρ σ H ∧ H a = some o ∧ F a = none ∧ ∀ j, isOw (ρ.getD j .un) = true → σ[j]? ≠ some (some (.ref a)) := by
  have fa : F a = none := by
    cases h : F a with
    | none => rfl
    | some u =>
      rcases S.new a (by rw [h]; simp) with z | z
      · exact absurd f0 z
      · have z : upd B.H0 a o a = none ∨ ∃ vs, upd B.H0 a o a = some (.tup vs) := z
        rw [upd_same] at z
        rcases z with z | ⟨vs, z⟩
        · cases z
        · exact absurd (by simpa using z) (nt vs)
  have ha : H a = some o := S.out a o (show upd B.G a o a = some o from upd_same)
  refine ⟨⟨S.ex, fun x u hx => ?_, fun x hx => ?_, S.ge, Thr.unprot S.thr ha nt, S.len, fun j => ?_, S.own⟩, ha, fa, fun j hj z => ?_⟩
  · have q : x ≠ a := fun z => by rw [z, ng] at hx; cases hx
    exact S.out x u (show upd B.G a o x = some u by rw [upd_ne q]; exact hx)
  · rcases S.new x hx with z | z
    · exact .inl z
    · have z : upd B.H0 a o x = none ∨ ∃ vs, upd B.H0 a o x = some (.tup vs) := z
      by_cases q : x = a
      · subst q
        exact absurd hx (by rw [fa]; simp)
      · rw [upd_ne q] at z; exact .inr z
  · have s := S.sl j
    cases hs : ρ.getD j .un with
    | un => trivial
    | fz d => rw [hs] at s; exact s
    | ow b c =>
      rw [hs] at s
      obtain ⟨a2, e2, ⟨nf2, ng2, u2, hu2, hc2⟩, g2, g3⟩ := s
      have ng2 : upd B.G a o a2 = none := ng2
      have q : a2 ≠ a := fun z => by rw [z, upd_same] at ng2; cases ng2
      rw [upd_ne q] at ng2
      refine ⟨a2, e2, ⟨nf2, ng2, u2, hu2, hc2⟩, fun hb => ?_, g3⟩
      have g2 : upd B.H0 a o a2 = none := g2 hb
      rw [upd_ne q] at g2; exact g2
  · have s := S.sl j
    cases hs : ρ.getD j .un with
    | un => rw [hs] at hj; cases hj
    | fz d => rw [hs] at hj; cases hj
    | ow b c =>
      rw [hs] at s
      obtain ⟨a2, e2, ⟨nf2, ng2, _⟩, _⟩ := s
      rw [e2] at z
      have : a2 = a := by simpa using z
      have ng2 : upd B.G a o a2 = none := ng2
      rw [this, upd_same] at ng2; cases ng2
/-- more of the callers' kept -/
structure Base.Le (B B' : Base) : Prop where
  f : B'.F0 = B.F0
  h : B'.H0 = B.H0
  s : B'.s0 = B.s0
  g : Ex B.G B'.G
theorem Base.Le.refl (B : Base) : B.Le B := ⟨rfl, rfl, rfl, Ex.refl _⟩
theorem Base.Le.none {B B' : Base} (l : B.Le B') {a : Addr} (h : B'.G a = Option.none) : B.G a = Option.none := fresh_back l.g h
theorem OwR.weaken {B B' : Base} (l : B.Le B') {a : Addr} {c : Ct} (h : OwR K B' F H a c) : OwR K B F H a c := ⟨h.nf, l.none h.ng, h.ob⟩
theorem St.weaken {B B' : Base} (l : B.Le B') (S : St K B' F ρ σ H) : St K B F ρ σ H := by
  refine ⟨S.ex, fun a u h => S.out a u (l.g a u h), fun a h => ?_, ?_, by rw [← l.h]; exact S.thr, S.len, fun i => ?_, S.own⟩
  · have := S.new a h
    unfold N0 at this ⊢
    rw [← l.f, ← l.h]; exact this
  · rw [← l.f]; exact S.ge
  · have s := S.sl i
    cases hs : ρ.getD i .un with
    | un => trivial
    | fz d => rw [hs] at s; exact s
    | ow b c =>
      rw [hs] at s
      obtain ⟨a, e1, o, h2, h3⟩ := s
      exact ⟨a, e1, o.weaken l, fun z => by rw [← l.h]; exact h2 z, fun z => by rw [← l.s]; exact h3 z⟩
end
end DL
set_option Elab.async false
set_option linter.all false
set_option maxRecDepth 100000
set_option maxHeartbeats 1000000
/-! DL2: the lifts; expressions. -/
namespace DL
open PySem L2 Evl

structure Exn where
  C : Addr
  f : Str
  d : D
abbrev XP := Exn → Env → Prop
abbrev DE := Env → XP → (D → Env → Prop) → Prop
abbrev DT := Env → XP → (Bool → Env → Prop) → Prop
structure MonoE (de : DE) : Prop where
  go : ∀ {ρ X X' K K'}, (∀ x ρ, X x ρ → X' x ρ) → (∀ r ρ, K r ρ → K' r ρ) → de ρ X K → de ρ X' K'
structure MonoT (de : DT) : Prop where
  go : ∀ {ρ X X' K K'}, (∀ x ρ, X x ρ → X' x ρ) → (∀ r ρ, K r ρ → K' r ρ) → de ρ X K → de ρ X' K'

theorem PE.imp {X : Cx} {e : Expr} {t t' : TE} (h : PE X e t) (hi : ∀ σ H Q, t' σ H Q → t σ H Q) : PE X e t' := ⟨fun pins s σ H Q I q => h.run pins s σ H Q I (hi σ H Q q)⟩
theorem PT.imp {X : Cx} {e : Expr} {t t' : TT} (h : PT X e t) (hi : ∀ σ H Q, t' σ H Q → t σ H Q) : PT X e t' := ⟨fun pins s σ H Q I q => h.run pins s σ H Q I (hi σ H Q q)⟩
theorem PW.imp {X : Cx} {e : Expr} {t t' : TT} (h : PW X e t) (hi : ∀ σ H Q, t' σ H Q → t σ H Q) : PW X e t' := ⟨fun w pins s σ H Q I q => h.run w pins s σ H Q I (hi σ H Q q)⟩
theorem PA.imp {X : Cx} {e : List Expr} {t t' : TA} (h : PA X e t) (hi : ∀ σ H Q, t' σ H Q → t σ H Q) : PA X e t' := ⟨fun p pins s σ H Q I q => h.run p pins s σ H Q I (hi σ H Q q)⟩
theorem PS.imp {X : Cx} {e : Stmt} {t t' : TS} (h : PS X e t) (hi : ∀ D σ H, t' D σ H → t D σ H) : PS X e t' := ⟨fun pins s σ H D I q => h.run pins s σ H D I (hi D σ H q)⟩
theorem PSs.imp {X : Cx} {e : List Stmt} {t t' : TS} (h : PSs X e t) (hi : ∀ D σ H, t' D σ H → t D σ H) : PSs X e t' := ⟨fun pins s σ H D I q => h.run pins s σ H D I (hi D σ H q)⟩

def xl (K : PySem.W.Frag) (W : WX) (B : Base) (F : Hp) (σ : L2.St) : XP := fun x ρ' =>
  ∀ F' H' dd v, Ex F F' → St K B F' ρ' σ H' → H' dd = some (.xd [(x.f, v)]) → Rep K F' v x.d → W (.ref x.C) (some dd) σ H'
theorem xl_up {K : PySem.W.Frag} {W : WX} {B : Base} {F F' : Hp} {σ : L2.St} (e : Ex F F') : ∀ x ρ, xl K W B F σ x ρ → xl K W B F' σ x ρ := fun _ _ h F2 H2 dd v e2 S h1 r => h F2 H2 dd v (e.trans e2) S h1 r
def liftE (K : PySem.W.Frag) (W : WX) (de : DE) : TE := fun σ H Q => ∃ B F ρ, St K B F ρ σ H ∧ de ρ (xl K W B F σ) fun r ρ' => ∀ v F' H', Ex F F' → St K B F' ρ' σ H' → Rep K F' v r → Q v H'
def liftT (K : PySem.W.Frag) (W : WX) (de : DT) : TT := fun σ H Q => ∃ B F ρ, St K B F ρ σ H ∧ de ρ (xl K W B F σ) fun r ρ' => ∀ F' H', Ex F F' → St K B F' ρ' σ H' → Q r H'
/-- arguments: a datum, or an owned thing that is lent -/
inductive AV where
  | d (x : D)
  | bor (i : Nat)
abbrev DAs := Env → XP → (List AV → Env → Prop) → Prop
structure MonoA (de : DAs) : Prop where
  go : ∀ {ρ X X' K K'}, (∀ x ρ, X x ρ → X' x ρ) → (∀ r ρ, K r ρ → K' r ρ) → de ρ X K → de ρ X' K'
def AvR (K : PySem.W.Frag) (F : Hp) (σ : L2.St) : List V → List AV → Prop
  | [], [] => True
  | v :: vs, .d x :: as => Rep K F v x ∧ AvR K F σ vs as
  | v :: vs, .bor i :: as => σ[i]? = some (some v) ∧ AvR K F σ vs as
  | _, _ => False
theorem AvR.mono {K : PySem.W.Frag} {F F' : Hp} {σ : L2.St} (e : Ex F F') : ∀ {vs : List V} {as : List AV}, AvR K F σ vs as → AvR K F' σ vs as
  | [], [], _ => trivial
  | v :: vs, .d x :: as, h => ⟨h.1.mono e, AvR.mono e h.2⟩
  | v :: vs, .bor i :: as, h => ⟨h.1, AvR.mono e h.2⟩
  | [], _ :: _, h => h.elim
  | _ :: _, [], h => h.elim
def liftA (K : PySem.W.Frag) (W : WX) (de : DAs) : TA := fun σ H Q => ∃ B F ρ, St K B F ρ σ H ∧ de ρ (xl K W B F σ) fun r ρ' => ∀ vs F' H', Ex F F' → St K B F' ρ' σ H' → AvR K F' σ vs r → Q vs H'
section
variable {K : PySem.W.Frag} {W : WX} {B : Base} {F0 F : Hp} {ρ : Env} {σ : L2.St} {H : Hp}
theorem liftE.of {de : DE} {k : D → Env → Prop} {Q : VK} (m : MonoE de) (e : Ex F0 F) (S : St K B F ρ σ H) (h : de ρ (xl K W B F0 σ) k) (hk : ∀ r ρ1, k r ρ1 → ∀ v F1 H1, Ex F F1 → St K B F1 ρ1 σ H1 → Rep K F1 v r → Q v H1) : liftE K W de σ H Q :=
  ⟨B, F, ρ, S, m.go (xl_up e) hk h⟩
theorem liftT.of {de : DT} {k : Bool → Env → Prop} {Q : Bool → Hp → Prop} (m : MonoT de) (e : Ex F0 F) (S : St K B F ρ σ H) (h : de ρ (xl K W B F0 σ) k) (hk : ∀ r ρ1, k r ρ1 → ∀ F1 H1, Ex F F1 → St K B F1 ρ1 σ H1 → Q r H1) : liftT K W de σ H Q :=
  ⟨B, F, ρ, S, m.go (xl_up e) hk h⟩
theorem liftA.of {de : DAs} {k : List AV → Env → Prop} {Q : List V → Hp → Prop} (m : MonoA de) (e : Ex F0 F) (S : St K B F ρ σ H) (h : de ρ (xl K W B F0 σ) k) (hk : ∀ r ρ1, k r ρ1 → ∀ v F1 H1, Ex F F1 → St K B F1 ρ1 σ H1 → AvR K F1 σ v r → Q v H1) : liftA K W de σ H Q :=
  ⟨B, F, ρ, S, m.go (xl_up e) hk h⟩
end
structure PD (X : Cx) (W : WX) (e : Expr) (de : DE) : Prop where
  mono : MonoE de
  run : PE X e (liftE X.K W de)
structure PDT (X : Cx) (W : WX) (e : Expr) (de : DT) : Prop where
  mono : MonoT de
  run : PT X e (liftT X.K W de)
structure PDW (X : Cx) (W : WX) (e : Expr) (de : DT) : Prop where
  mono : MonoT de
  run : PW X e (liftT X.K W de)
structure PDA (X : Cx) (W : WX) (es : List Expr) (de : DAs) : Prop where
  mono : MonoA de
  run : PA X es (liftA X.K W de)

/-! ### names and constants -/
def gt (ρ : Env) (i : Nat) : Sl := ρ.getD i .un
def ofFz : Sl → (D → Prop) → Prop
  | .fz d, k => k d
  | _, _ => False
def eVar (i : Nat) : DE := fun ρ _ K => ofFz (gt ρ i) fun d => K d ρ
def eC (d : D) : DE := fun ρ _ K => K d ρ
section
variable {X : Cx} {W : WX} {a b : Expr} {da db : DE} {pos : Pos}
theorem ofFz.eq {s : Sl} {k : D → Prop} (h : ofFz s k) : ∃ d, s = .fz d ∧ k d := by
  cases s with
  | fz d => exact ⟨d, rfl, h⟩
  | un => exact h.elim
  | ow b c => exact h.elim
theorem mono_var {i : Nat} : MonoE (eVar i) := ⟨fun hx hk h => by
  obtain ⟨d, e, q⟩ := ofFz.eq h
  show ofFz _ _
  rw [e]; exact hk _ _ q⟩
theorem mono_c {d : D} : MonoE (eC d) := ⟨fun hx hk h => hk _ _ h⟩
theorem pd_var (i : Nat) {x : Str} (hN : X.N[i]? = some x := by rfl) (hv : Vis X.env.scope x := by first | exact Or.inl rfl | exact Or.inr (Or.inl rfl) | exact Or.inr (Or.inr rfl)) (hd : (x == ("__debug__" : Str)) = false := by decide)
    (hcd : (x == ("__classdict__" : Str)) = false := by decide) : PD X W (.Name x pos) (eVar i) := ⟨mono_var, PE.imp (pe_var hN hv hd hcd) fun σ H Q ⟨B, F, ρ, S, h⟩ => by
    obtain ⟨d, e, q⟩ := ofFz.eq h
    obtain ⟨v, e1, r⟩ := S.fz e
    exact ⟨v, e1, q v F H (Ex.refl _) S r⟩⟩
theorem pd_const {e : Expr} {v : V} {d : D} (h : PE X e (tC v)) (r : ∀ F, Rep X.K F v d) : PD X W e (eC d) := ⟨mono_c, PE.imp h fun σ H Q ⟨B, F, ρ, S, h⟩ => h v F H (Ex.refl _) S (r F)⟩
theorem pd_int {i : Int} {j} : PD X W (.Constant (.int i) j pos) (eC (.int i)) := pd_const pe_int fun _ => .int i
theorem pd_bool {i : Bool} {j} : PD X W (.Constant (.bool i) j pos) (eC (.bool i)) := pd_const pe_bl fun _ => .bool i
theorem pd_none {j} : PD X W (.Constant .none j pos) (eC .none) := pd_const pe_non fun _ => .none
theorem pd_str {x : Str} {j} : PD X W (.Constant (.str x) j pos) (eC (.str x)) := pd_const pe_str fun _ => .str x
/-- a module's constant -/
theorem pd_gint {x : Str} {i : Int} {u : Value} (hg : Gl X x) (hm : X.mg x = some u) (r : ∃ t, u = .int i t) (hd : (x == ("__debug__" : Str)) = false := by decide) : PD X W (.Name x pos) (eC (.int i)) := pd_const (pe_glob (v := .int i) hg hm r hd) fun _ => .int i
theorem pd_gstr {x : Str} {i : Str} {u : Value} (hg : Gl X x) (hm : X.mg x = some u) (r : ∃ t, u = .str i t) (hd : (x == ("__debug__" : Str)) = false := by decide) : PD X W (.Name x pos) (eC (.str i)) := pd_const (pe_glob (v := .str i) hg hm r hd) fun _ => .str i

/-! ### operators -/
abbrev DOp := D → D → (D → Prop) → Prop
structure MonoO (f : DOp) : Prop where
  go : ∀ {x y P P'}, (∀ z, P z → P' z) → f x y P → f x y P'
structure ROp (K : PySem.W.Frag) (r : R2) (f : DOp) : Prop where
  mono : MonoO f
  run : ∀ {B F ρ σ H v w x y Q P}, St K B F ρ σ H → Rep K F v x → Rep K F w y → f x y P → (∀ z, P z → ∀ u F' H', Ex F F' → St K B F' ρ σ H' → Rep K F' u z → Q u H') → r v w H Q
def eOp (f : DOp) (da db : DE) : DE := fun ρ X K => da ρ X fun x ρ1 => db ρ1 X fun y ρ2 => f x y fun z => K z ρ2
theorem mono_op {f : DOp} (hf : MonoO f) (ma : MonoE da) (mb : MonoE db) : MonoE (eOp f da db) := ⟨fun hx hk h => ma.go hx (fun _ _ h => mb.go hx (fun _ _ h => hf.go (fun _ h => hk _ _ h) h) h) h⟩
theorem opT {r : R2} {f : DOp} (hr : ROp X.K r f) (ma : MonoE da) (mb : MonoE db) {σ : L2.St} {H : Hp} {Q : VK} (h : liftE X.K W (eOp f da db) σ H Q) : tOp r (liftE X.K W da) (liftE X.K W db) σ H Q := by
  obtain ⟨B, F, ρ, S, h⟩ := h
  refine liftE.of ma (Ex.refl _) S h fun x ρ1 h v F1 H1 e1 S1 r1 => ?_
  refine liftE.of mb e1 S1 h fun y ρ2 h w F2 H2 e2 S2 r2 => ?_
  exact hr.run S2 (r1.mono e2) r2 h fun z h u F' H' e3 S3 r3 => h u F' H' ((e1.trans e2).trans e3) S3 r3
theorem pd_op {op : Operator} {r : R2} {f : DOp} (ho : OpR X (binaryOp op) r) (hr : ROp X.K r f) (ha : PD X W a da) (hb : PD X W b db) : PD X W (.BinOp a op b pos) (eOp f da db) :=
  ⟨mono_op hr.mono ha.mono hb.mono, PE.imp (pe_op ho ha.run hb.run) fun σ H Q h => opT hr ha.mono hb.mono h⟩
theorem pd_cmp {op : CmpOp} {r : R2} {f : DOp} (ho : OpR X (compareOp op) r) (hr : ROp X.K r f) (ha : PD X W a da) (hb : PD X W b db) (hm : behindInMarks op b = false) : PD X W (.Compare a [op] [b] pos) (eOp f da db) :=
  ⟨mono_op hr.mono ha.mono hb.mono, PE.imp (pe_cmpR ho ha.run hb.run hm) fun σ H Q h => opT hr ha.mono hb.mono h⟩
def asB : D → (Bool → Prop) → Prop
  | .bool b, k => k b
  | _, _ => False
theorem asB.eq {d : D} {k : Bool → Prop} (h : asB d k) : ∃ b, d = .bool b ∧ k b := by
  cases d <;> first | exact ⟨_, rfl, h⟩ | exact h.elim
/-- a value that is a bool, as a test -/
def bV (de : DE) : DT := fun ρ X K => de ρ X fun d ρ' => asB d fun b => K b ρ'
theorem mono_bV (ma : MonoE da) : MonoT (bV da) := ⟨fun hx hk h => ma.go hx (fun d ρ h => by
  obtain ⟨b, rfl, q⟩ := asB.eq h
  exact hk _ _ q) h⟩
theorem liftT_bV (ma : MonoE da) {σ : L2.St} {H : Hp} {Q : Bool → Hp → Prop} (h : liftT X.K W (bV da) σ H Q) : liftE X.K W da σ H fun x H1 => ∃ c, x = .bl c ∧ Q c H1 := by
  obtain ⟨B, F, ρ, S, h⟩ := h
  refine liftE.of ma (Ex.refl _) S h fun d ρ1 h v F1 H1 e1 S1 r1 => ?_
  obtain ⟨b, rfl, q⟩ := asB.eq h
  exact ⟨b, r1.bool_inv, q F1 H1 e1 S1⟩
/-- any expression that gives a bool -/
theorem pdt_val {e : Expr} (h : PD X W e da) (he : ∀ whole, isTrue e X.env whole = (do let v ← whole; standAt e.pos; holding [v] (truthy v)) := by intro _; rfl) : PDT X W e (bV da) :=
  ⟨mono_bV h.mono, PT.imp (pt_val h.run he) fun σ H Q q => liftT_bV h.mono q⟩
theorem pdt_cmp {op : CmpOp} {r : R2} {f : DOp} (ho : OpR X (compareOp op) r) (hr : ROp X.K r f) (ha : PD X W a da) (hb : PD X W b db) (hm : behindInMarks op b = false) : PDT X W (.Compare a [op] [b] pos) (bV (eOp f da db)) :=
  ⟨mono_bV (mono_op hr.mono ha.mono hb.mono), PT.imp (pt_cmpR ho ha.run hb.run hm) fun σ H Q q => opT hr ha.mono hb.mono (by
    obtain ⟨B, F, ρ, S, h⟩ := q
    refine liftE.of (mono_op hr.mono ha.mono hb.mono) (Ex.refl _) S h fun d ρ1 h v F1 H1 e1 S1 r1 => ?_
    obtain ⟨b, rfl, q⟩ := asB.eq h
    exact ⟨b, r1.bool_inv, q F1 H1 e1 S1⟩)⟩

/-! ### the operators on data -/
def dAdd : DOp
  | .int i, .int j, P => P (.int (i + j))
  | .str x, .str y, P => x.length + y.length ≤ sizeLine ∧ P (.str (x ++ y))
  | .tuple xs, .tuple ys, P => xs.length + ys.length ≤ sizeLine ∧ P (.tuple (xs ++ ys))
  | .list xs, .list ys, P => xs.length + ys.length ≤ sizeLine ∧ P (.list (xs ++ ys))
  | _, _, _ => False
def rAddAll (K : PySem.W.Frag) : R2 := fun x y H Q => rI0 (fun i j => .int (i + j)) x y H Q ∨ ((∃ i j, x = .str i ∧ y = .str j ∧ i.length + j.length ≤ sizeLine ∧ Q (.str (i ++ j)) H) ∨ (rCatA K x y H Q ∨ rCat x y H Q))
theorem op_addAll : OpR X (binaryOp .Add) (rAddAll X.K) := op_add.or (op_add_str.or (op_catA.or op_cat))
theorem ro_add {K : PySem.W.Frag} : ROp K (rAddAll K) dAdd := by
  refine ⟨⟨fun {x y P P'} hp h => ?_⟩, fun {B F ρ σ H v w x y Q P} S rx ry h k => ?_⟩
  · cases x <;> cases y <;> first | exact hp _ h | exact ⟨h.1, hp _ h.2⟩ | exact h.elim
  · cases x <;> cases y <;> try exact h.elim
    · cases rx.int_inv
      cases ry.int_inv
      exact .inl ⟨_, _, rfl, rfl, k _ h _ F H (Ex.refl _) S (.int _)⟩
    · cases rx.str_inv
      cases ry.str_inv
      exact .inr (.inl ⟨_, _, rfl, rfl, h.1, k _ h.2 _ F H (Ex.refl _) S (.str _)⟩)
    · obtain ⟨a, vs, rfl, h1, r1⟩ := rx.list_inv
      obtain ⟨b, ws, rfl, h2, r2⟩ := ry.list_inv
      refine .inr (.inr (.inr ⟨a, b, vs, ws, rfl, rfl, S.ex.on h1, S.ex.on h2, by rw [r1.length, r2.length]; exact h.1, fun p hp => ?_⟩))
      obtain ⟨e, S'⟩ := S.alloc (o := .lst (vs ++ ws)) hp
      exact k _ h.2 _ _ _ e S' (.lst upd_same ((r1.append r2).mono e))
    · obtain ⟨a, vs, rfl, h1, r1⟩ := rx.tuple_inv
      obtain ⟨b, ws, rfl, h2, r2⟩ := ry.tuple_inv
      refine .inr (.inr (.inl ⟨a, b, vs, ws, rfl, rfl, xl_t S.ex h1, xl_t S.ex h2, by rw [r1.length, r2.length]; exact h.1, fun z => ?_, fun z1 z2 => ?_, fun z1 z2 p hp => ?_⟩))
      · subst z
        cases r1
        exact k _ h.2 _ F H (Ex.refl _) S ry
      · subst z2
        cases r2
        have h' := h.2
        rw [List.append_nil] at h'
        exact k _ h' _ F H (Ex.refl _) S rx
      · obtain ⟨e, S'⟩ := S.alloc (o := .tup (vs ++ ws)) hp
        exact k _ h.2 _ _ _ e S' (.tup upd_same ((r1.append r2).mono e))
def dII (C : Int → Int → Prop) (g : Int → Int → D) : DOp
  | .int i, .int j, P => C i j ∧ P (g i j)
  | _, _, _ => False
theorem mono_dII {C : Int → Int → Prop} {g : Int → Int → D} : MonoO (dII C g) := ⟨fun {x y P P'} hp h => by
  cases x <;> cases y <;> first | exact h.elim | exact ⟨h.1, hp _ h.2⟩⟩
theorem ro_int {K : PySem.W.Frag} {C : Int → Int → Prop} {g : Int → Int → Int} : ROp K (rI C fun i j => .int (g i j)) (dII C fun i j => .int (g i j)) := by
  refine ⟨mono_dII, fun {B F ρ σ H v w x y Q P} S rx ry h k => ?_⟩
  cases x <;> cases y <;> try exact h.elim
  cases rx.int_inv
  cases ry.int_inv
  exact ⟨_, _, rfl, rfl, h.1, k _ h.2 _ F H (Ex.refl _) S (.int _)⟩
def dI0 (g : Int → Int → D) : DOp
  | .int i, .int j, P => P (g i j)
  | _, _, _ => False
theorem mono_dI0 {g : Int → Int → D} : MonoO (dI0 g) := ⟨fun {x y P P'} hp h => by
  cases x <;> cases y <;> first | exact h.elim | exact hp _ h⟩
theorem ro_int0 {K : PySem.W.Frag} {g : Int → Int → Int} : ROp K (rI0 fun i j => .int (g i j)) (dI0 fun i j => .int (g i j)) := by
  refine ⟨mono_dI0, fun {B F ρ σ H v w x y Q P} S rx ry h k => ?_⟩
  cases x <;> cases y <;> try exact h.elim
  cases rx.int_inv
  cases ry.int_inv
  exact ⟨_, _, rfl, rfl, k _ h _ F H (Ex.refl _) S (.int _)⟩
theorem ro_boo0 {K : PySem.W.Frag} {g : Int → Int → Bool} : ROp K (rI0 fun i j => .bl (g i j)) (dI0 fun i j => .bool (g i j)) := by
  refine ⟨mono_dI0, fun {B F ρ σ H v w x y Q P} S rx ry h k => ?_⟩
  cases x <;> cases y <;> try exact h.elim
  cases rx.int_inv
  cases ry.int_inv
  exact ⟨_, _, rfl, rfl, k _ h _ F H (Ex.refl _) S (.bool _)⟩
abbrev dSub : DOp := dI0 fun i j => .int (i - j)
abbrev dFdiv : DOp := dII CDiv fun i j => .int (i / j)
abbrev dMod : DOp := dII (fun _ j => 0 < j) fun i j => .int (i % j)
abbrev dPow : DOp := dII CPow fun i j => .int (i ^ j.toNat)
abbrev dLt : DOp := dI0 fun i j => .bool (decide (i < j))
abbrev dLe : DOp := dI0 fun i j => .bool (decide (i ≤ j))
abbrev dGt : DOp := dI0 fun i j => .bool (decide (j < i))
abbrev dGe : DOp := dI0 fun i j => .bool (decide (j ≤ i))
/-- products: of ints; a list, a tuple some times -/
def dMul : DOp
  | .int i, .int j, P => CMul i j ∧ P (.int (i * j))
  | .list xs, .int k, P => (0 ≤ k ∧ k < 1000000 ∧ xs.length * k.toNat ≤ 1000000) ∧ P (.list (List.replicate k.toNat xs).flatten)
  | _, _, _ => False
def rMulAll : R2 := fun x y H Q => rI CMul (fun i j => .int (i * j)) x y H Q ∨ rRep x y H Q
theorem op_mulAll : OpR X (binaryOp .Mult) rMulAll := op_mul.or op_rep
theorem ro_mul {K : PySem.W.Frag} : ROp K rMulAll dMul := by
  refine ⟨⟨fun {x y P P'} hp h => ?_⟩, fun {B F ρ σ H v w x y Q P} S rx ry h k => ?_⟩
  · cases x <;> cases y <;> first | exact ⟨h.1, hp _ h.2⟩ | exact h.elim
  · cases x <;> cases y <;> try exact h.elim
    · cases rx.int_inv
      cases ry.int_inv
      exact .inl ⟨_, _, rfl, rfl, h.1, k _ h.2 _ F H (Ex.refl _) S (.int _)⟩
    · obtain ⟨a, vs, rfl, h1, r1⟩ := rx.list_inv
      cases ry.int_inv
      obtain ⟨⟨a1, a2, a3⟩, hp⟩ := h
      refine .inr ⟨a, _, vs, rfl, rfl, S.ex.on h1, by omega, by omega, ?_, fun p hp' => ?_⟩
      · rw [r1.length]; exact Nat.le_trans a3 (by rw [sizeLine_eq]; decide)
      · obtain ⟨e, S'⟩ := S.alloc (o := .lst (List.replicate _ vs).flatten) hp'
        exact k _ hp _ _ _ e S' (.lst upd_same ((r1.flatten_replicate _).mono e))
/-- is None -/
def isNoneD : D → Bool
  | .none => true
  | _ => false
def dIsN (neg : Bool) : DOp := fun x y P => match y with
  | .none => P (.bool (if neg then !isNoneD x else isNoneD x))
  | _ => False
theorem Rep.isNone {K : PySem.W.Frag} {F : Hp} {v : V} {d : D} (r : Rep K F v d) : decide (v = .non) = isNoneD d := by cases r <;> rfl
theorem ro_isN {K : PySem.W.Frag} : ROp K (fun x y H Q => y = .non ∧ Q (.bl (decide (x = .non))) H) (dIsN false) := by
  refine ⟨⟨fun {x y P P'} hp h => ?_⟩, fun {B F ρ σ H v w x y Q P} S rx ry h k => ?_⟩
  · cases y <;> first | exact hp _ h | exact h.elim
  · cases y <;> try exact h.elim
    refine ⟨ry.none_inv, ?_⟩
    rw [rx.isNone]
    exact k _ h _ F H (Ex.refl _) S (.bool _)
theorem ro_notN {K : PySem.W.Frag} : ROp K (fun x y H Q => y = .non ∧ Q (.bl (!decide (x = .non))) H) (dIsN true) := by
  refine ⟨⟨fun {x y P P'} hp h => ?_⟩, fun {B F ρ σ H v w x y Q P} S rx ry h k => ?_⟩
  · cases y <;> first | exact hp _ h | exact h.elim
  · cases y <;> try exact h.elim
    refine ⟨ry.none_inv, ?_⟩
    rw [rx.isNone]
    exact k _ h _ F H (Ex.refl _) S (.bool _)
/-- is True, is False (of bools) -/
def dIsB (neg : Bool) : DOp
  | .bool a, .bool b, P => P (.bool (if neg then !decide (a = b) else decide (a = b)))
  | _, _, _ => False
theorem mono_isB {neg : Bool} : MonoO (dIsB neg) := ⟨fun {x y P P'} hp h => by
  cases x <;> cases y <;> first | exact h.elim | exact hp _ h⟩
theorem ro_isB {K : PySem.W.Frag} : ROp K rIsB (dIsB false) := by
  refine ⟨mono_isB, fun {B F ρ σ H v w x y Q P} S rx ry h k => ?_⟩
  cases x <;> cases y <;> try exact h.elim
  cases rx.bool_inv
  cases ry.bool_inv
  exact ⟨_, _, rfl, rfl, k _ h _ F H (Ex.refl _) S (.bool _)⟩
theorem ro_notB {K : PySem.W.Frag} : ROp K rNotB (dIsB true) := by
  refine ⟨mono_isB, fun {B F ρ σ H v w x y Q P} S rx ry h k => ?_⟩
  cases x <;> cases y <;> try exact h.elim
  cases rx.bool_inv
  cases ry.bool_inv
  exact ⟨_, _, rfl, rfl, k _ h _ F H (Ex.refl _) S (.bool _)⟩
end

/-! ### == of data -/
mutual
def D.py : D → PyData
  | .none => .none
  | .bool b => .bool b
  | .int i => .int i
  | .str s => .str s
  | .list xs => .list (pys xs)
  | .tuple xs => .tuple (pys xs)
  | .rol xs => .list (pys xs)
  | .dict _ => .none
  | .dictT _ => .none
  | .dictN _ => .none
  | .ob _ _ _ => .none
def pys : List D → List PyData
  | [] => []
  | x :: xs => x.py :: pys xs
end
mutual
/-- no dict, no object in it; of depth n at most -/
def D.ok : Nat → D → Bool
  | _, .none => true
  | _, .bool _ => true
  | _, .int _ => true
  | _, .str s => PyData.strOk s
  | n, .list xs => match n with
    | 0 => false
    | n + 1 => oks n xs
  | n, .tuple xs => match n with
    | 0 => false
    | n + 1 => oks n xs
  | n, .rol xs => match n with
    | 0 => false
    | n + 1 => oks n xs
  | _, .dict _ => false
  | _, .dictT _ => false
  | _, .dictN _ => false
  | _, .ob _ _ _ => false
def oks : Nat → List D → Bool
  | _, [] => true
  | n, x :: xs => D.ok n x && oks n xs
end
section
variable {K : PySem.W.Frag} {F : Hp}
mutual
theorem Rep.dp : ∀ {d : D} {n : Nat} {v : V}, D.ok n d = true → Rep K F v d → Dp K F v d.py
  | .none, _, _, _, r => by cases r; exact .non
  | .bool _, _, _, _, r => by cases r; exact .bl _
  | .int _, _, _, _, r => by cases r; exact .int _
  | .str _, _, _, _, r => by cases r; exact .str _
  | .list xs, 0, _, h, _ => by simp [D.ok] at h
  | .list xs, n + 1, _, h, r => by
    obtain ⟨a, vs, rfl, h1, r1⟩ := r.list_inv
    exact .lst (.inl (.inl h1)) (Reps.dp (n := n) (by simpa [D.ok] using h) r1)
  | .tuple xs, 0, _, h, _ => by simp [D.ok] at h
  | .tuple xs, n + 1, _, h, r => by
    obtain ⟨a, vs, rfl, h1, r1⟩ := r.tuple_inv
    exact .tup h1 (Reps.dp (n := n) (by simpa [D.ok] using h) r1)
  | .rol xs, 0, _, h, _ => by simp [D.ok] at h
  | .rol xs, n + 1, _, h, r => by
    obtain ⟨a, vs, rfl, h1, r1⟩ := r.rol_inv
    exact .lst h1 (Reps.dp (n := n) (by simpa [D.ok] using h) r1)
  | .dict _, _, _, h, _ => by simp [D.ok] at h
  | .dictT _, _, _, h, _ => by simp [D.ok] at h
  | .dictN _, _, _, h, _ => by simp [D.ok] at h
  | .ob _ _ _, _, _, h, _ => by simp [D.ok] at h
theorem Reps.dp : ∀ {ds : List D} {n : Nat} {vs : List V}, oks n ds = true → Reps K F vs ds → DpAll K F vs (pys ds)
  | [], _, _, _, r => by cases r; exact .nil
  | d :: ds, n, _, h, r => by
    cases r with
    | cons r t =>
      simp only [oks, Bool.and_eq_true] at h
      exact .cons (Rep.dp h.1 r) (Reps.dp h.2 t)
end
end
mutual
theorem ok_lay : ∀ {d : D} {n : Nat}, D.ok n d = true → d.py.canLay0 = true ∧ d.py.depth ≤ n
  | .none, _, _ => by simp [D.py, PyData.canLay0, PyData.depth]
  | .bool _, _, _ => by simp [D.py, PyData.canLay0, PyData.depth]
  | .int _, _, _ => by simp [D.py, PyData.canLay0, PyData.depth]
  | .str _, _, h => by
    have h' : PyData.strOk _ = true := h
    simp [D.py, PyData.canLay0, PyData.depth, h']
  | .list xs, 0, h => by simp [D.ok] at h
  | .list xs, n + 1, h => by
    have := oks_lay (ds := xs) (n := n) (by simpa [D.ok] using h)
    simp [D.py, PyData.canLay0, PyData.depth, this.1]; omega
  | .tuple xs, 0, h => by simp [D.ok] at h
  | .tuple xs, n + 1, h => by
    have := oks_lay (ds := xs) (n := n) (by simpa [D.ok] using h)
    simp [D.py, PyData.canLay0, PyData.depth, this.1]; omega
  | .rol xs, 0, h => by simp [D.ok] at h
  | .rol xs, n + 1, h => by
    have := oks_lay (ds := xs) (n := n) (by simpa [D.ok] using h)
    simp [D.py, PyData.canLay0, PyData.depth, this.1]; omega
  | .dict _, _, h => by simp [D.ok] at h
  | .dictT _, _, h => by simp [D.ok] at h
  | .dictN _, _, h => by simp [D.ok] at h
  | .ob _ _ _, _, h => by simp [D.ok] at h
theorem oks_lay : ∀ {ds : List D} {n : Nat}, oks n ds = true → PyData.canLayAll0 (pys ds) = true ∧ PyData.depthAll (pys ds) ≤ n
  | [], _, _ => by simp [pys, PyData.canLayAll0, PyData.depthAll]
  | d :: ds, n, h => by
    simp only [oks, Bool.and_eq_true] at h
    have h1 := ok_lay h.1
    have h2 := oks_lay h.2
    simp [pys, PyData.canLayAll0, PyData.depthAll, h1.1, h2.1]; omega
end
theorem ok_shaped {d : D} (h : D.ok 60 d = true) : SeqAt.shaped d.py = true := by
  have := ok_lay h
  unfold SeqAt.shaped
  rw [this.1, Bool.true_and]
  exact decide_eq_true (by omega)
def deq (x y : D) : Bool := PyData.eqv x.py y.py
def dEqD (neg : Bool) : DOp := fun x y P => (D.ok 60 x = true ∧ D.ok 60 y = true) ∧ P (.bool (if neg then !deq x y else deq x y))
theorem mono_eqD {neg : Bool} : MonoO (dEqD neg) := ⟨fun {x y P P'} hp h => ⟨h.1, hp _ h.2⟩⟩
theorem Dp.mono {K : PySem.W.Frag} {F H : Hp} (e : ExL F H) : ∀ {v : V} {d : PyData}, Dp K F v d → Dp K H v d := by
  intro v d h
  refine Dp.rec (motive_1 := fun v d _ => Dp K H v d) (motive_2 := fun vs ds _ => DpAll K H vs ds) ?_ ?_ ?_ ?_ ?_ ?_ ?_ ?_ h
  · exact .non
  · exact fun b => .bl b
  · exact fun i => .int i
  · exact fun x => .str x
  · exact fun h1 _ ih => .lst (xl_l e h1) ih
  · exact fun h1 _ ih => .tup (xl_t e h1) ih
  · exact .nil
  · exact fun _ _ ih1 ih2 => .cons ih1 ih2
theorem ro_eq {K : PySem.W.Frag} : ROp K (rEqD K) (dEqD false) := by
  refine ⟨mono_eqD, fun {B F ρ σ H v w x y Q P} S rx ry h k => ?_⟩
  exact ⟨x.py, y.py, Dp.mono S.ex (rx.dp h.1.1), Dp.mono S.ex (ry.dp h.1.2), ok_shaped h.1.1, ok_shaped h.1.2, k _ h.2 _ F H (Ex.refl _) S (.bool _)⟩
theorem ro_ne {K : PySem.W.Frag} : ROp K (rNeD K) (dEqD true) := by
  refine ⟨mono_eqD, fun {B F ρ σ H v w x y Q P} S rx ry h k => ?_⟩
  exact ⟨x.py, y.py, Dp.mono S.ex (rx.dp h.1.1), Dp.mono S.ex (ry.dp h.1.2), ok_shaped h.1.1, ok_shaped h.1.2, k _ h.2 _ F H (Ex.refl _) S (.bool _)⟩
end DL
set_option Elab.async false
set_option linter.all false
set_option maxRecDepth 100000
set_option maxHeartbeats 1000000
/-! DL3: tests, displays, subscripts, fields, calls. -/
namespace DL
open PySem L2 Evl
section
variable {X : Cx} {W : WX} {a b c : Expr} {da db dc' : DE} {ta tb : DT} {rest : List Expr} {pos : Pos}

/-! ### and, or, not, if -/
def bAnd (t u : DT) : DT := fun ρ X K => t ρ X fun c ρ1 => if c = true then u ρ1 X K else K false ρ1
def bOr (t u : DT) : DT := fun ρ X K => t ρ X fun c ρ1 => if c = true then K true ρ1 else u ρ1 X K
def bNot (t : DT) : DT := fun ρ X K => t ρ X fun c ρ1 => K (!c) ρ1
theorem mono_bAnd (m1 : MonoT ta) (m2 : MonoT tb) : MonoT (bAnd ta tb) := ⟨fun hx hk h => m1.go hx (fun c ρ h => by
  cases c with
  | true => exact m2.go hx hk h
  | false => exact hk _ _ h) h⟩
theorem mono_bOr (m1 : MonoT ta) (m2 : MonoT tb) : MonoT (bOr ta tb) := ⟨fun hx hk h => m1.go hx (fun c ρ h => by
  cases c with
  | false => exact m2.go hx hk h
  | true => exact hk _ _ h) h⟩
theorem mono_bNot (m1 : MonoT ta) : MonoT (bNot ta) := ⟨fun hx hk h => m1.go hx (fun c ρ h => hk _ _ h) h⟩
theorem pdw_and1 (h : PDT X W a ta) : PDW X W (.BoolOp .And [a] pos) ta := ⟨h.mono, pw_and1 h.run⟩
theorem pdw_or1 (h : PDT X W a ta) : PDW X W (.BoolOp .Or [a] pos) ta := ⟨h.mono, pw_or1 h.run⟩
theorem pdw_and (h1 : PDT X W a ta) (h2 : PDW X W (.BoolOp .And (b :: rest) pos) tb) : PDW X W (.BoolOp .And (a :: b :: rest) pos) (bAnd ta tb) :=
  ⟨mono_bAnd h1.mono h2.mono, PW.imp (pw_and h1.run h2.run) fun σ H Q ⟨B, F, ρ, S, h⟩ => liftT.of h1.mono (Ex.refl _) S h fun c ρ1 h F1 H1 e1 S1 => by
    cases c with
    | true => exact liftT.of h2.mono e1 S1 h fun c ρ2 h F2 H2 e2 S2 => h F2 H2 (e1.trans e2) S2
    | false => exact h F1 H1 e1 S1⟩
theorem pdw_or (h1 : PDT X W a ta) (h2 : PDW X W (.BoolOp .Or (b :: rest) pos) tb) : PDW X W (.BoolOp .Or (a :: b :: rest) pos) (bOr ta tb) :=
  ⟨mono_bOr h1.mono h2.mono, PW.imp (pw_or h1.run h2.run) fun σ H Q ⟨B, F, ρ, S, h⟩ => liftT.of h1.mono (Ex.refl _) S h fun c ρ1 h F1 H1 e1 S1 => by
    cases c with
    | false => exact liftT.of h2.mono e1 S1 h fun c ρ2 h F2 H2 e2 S2 => h F2 H2 (e1.trans e2) S2
    | true => exact h F1 H1 e1 S1⟩
theorem pdt_w (h : PDW X W a ta) : PDT X W a ta := ⟨h.mono, PW.pt h.run⟩
theorem pdt_not (h : PDT X W a ta) : PDT X W (.UnaryOp .Not a pos) (bNot ta) :=
  ⟨mono_bNot h.mono, PT.imp (pt_not h.run) fun σ H Q ⟨B, F, ρ, S, h'⟩ => liftT.of h.mono (Ex.refl _) S h' fun c ρ1 h F1 H1 e1 S1 => h F1 H1 e1 S1⟩
/-- the same as values -/
def eAnd (da db : DE) : DE := fun ρ X K => da ρ X fun d ρ1 => asB d fun c => if c = true then db ρ1 X K else K (.bool false) ρ1
def eOr (da db : DE) : DE := fun ρ X K => da ρ X fun d ρ1 => asB d fun c => if c = true then K (.bool true) ρ1 else db ρ1 X K
def eNot (da : DE) : DE := fun ρ X K => da ρ X fun d ρ1 => asB d fun c => K (.bool (!c)) ρ1
theorem mono_eAnd (m1 : MonoE da) (m2 : MonoE db) : MonoE (eAnd da db) := ⟨fun hx hk h => m1.go hx (fun d ρ h => by
  obtain ⟨c, rfl, h⟩ := asB.eq h
  cases c with
  | true => exact m2.go hx hk h
  | false => exact hk _ _ h) h⟩
theorem mono_eOr (m1 : MonoE da) (m2 : MonoE db) : MonoE (eOr da db) := ⟨fun hx hk h => m1.go hx (fun d ρ h => by
  obtain ⟨c, rfl, h⟩ := asB.eq h
  cases c with
  | false => exact m2.go hx hk h
  | true => exact hk _ _ h) h⟩
theorem mono_eNot (m1 : MonoE da) : MonoE (eNot da) := ⟨fun hx hk h => m1.go hx (fun d ρ h => by
  obtain ⟨c, rfl, h⟩ := asB.eq h
  exact hk _ _ h) h⟩
theorem pd_one {op} (h : PD X W a da) : PD X W (.BoolOp op [a] pos) da := ⟨h.mono, pe_one h.run⟩
theorem pd_and (h1 : PD X W a da) (h2 : PD X W (.BoolOp .And (b :: rest) pos) db) : PD X W (.BoolOp .And (a :: b :: rest) pos) (eAnd da db) :=
  ⟨mono_eAnd h1.mono h2.mono, PE.imp (pe_and h1.run h2.run) fun σ H Q ⟨B, F, ρ, S, h⟩ => liftE.of h1.mono (Ex.refl _) S h fun d ρ1 h v F1 H1 e1 S1 r1 => by
    obtain ⟨c, rfl, h⟩ := asB.eq h
    refine ⟨c, r1.bool_inv, ?_⟩
    cases c with
    | true => exact liftE.of h2.mono e1 S1 h fun c ρ2 h v F2 H2 e2 S2 r2 => h v F2 H2 (e1.trans e2) S2 r2
    | false => exact h _ F1 H1 e1 S1 (.bool false)⟩
theorem pd_or (h1 : PD X W a da) (h2 : PD X W (.BoolOp .Or (b :: rest) pos) db) : PD X W (.BoolOp .Or (a :: b :: rest) pos) (eOr da db) :=
  ⟨mono_eOr h1.mono h2.mono, PE.imp (pe_or h1.run h2.run) fun σ H Q ⟨B, F, ρ, S, h⟩ => liftE.of h1.mono (Ex.refl _) S h fun d ρ1 h v F1 H1 e1 S1 r1 => by
    obtain ⟨c, rfl, h⟩ := asB.eq h
    refine ⟨c, r1.bool_inv, ?_⟩
    cases c with
    | false => exact liftE.of h2.mono e1 S1 h fun c ρ2 h v F2 H2 e2 S2 r2 => h v F2 H2 (e1.trans e2) S2 r2
    | true => exact h _ F1 H1 e1 S1 (.bool true)⟩
theorem pd_not (h1 : PD X W a da) : PD X W (.UnaryOp .Not a pos) (eNot da) :=
  ⟨mono_eNot h1.mono, PE.imp (pe_not h1.run) fun σ H Q ⟨B, F, ρ, S, h⟩ => liftE.of h1.mono (Ex.refl _) S h fun d ρ1 h v F1 H1 e1 S1 r1 => by
    obtain ⟨c, rfl, h⟩ := asB.eq h
    exact ⟨c, r1.bool_inv, h _ F1 H1 e1 S1 (.bool _)⟩⟩
/-- a test as a value -/
def eNeg (da : DE) : DE := fun ρ X K => da ρ X fun d ρ1 => match d with
  | .int i => K (.int (-i)) ρ1
  | _ => False
theorem mono_eNeg (m1 : MonoE da) : MonoE (eNeg da) := ⟨fun hx hk h => m1.go hx (fun d ρ h => by
  cases d <;> first | exact hk _ _ h | exact h.elim) h⟩
theorem pd_neg (h1 : PD X W a da) : PD X W (.UnaryOp .USub a pos) (eNeg da) :=
  ⟨mono_eNeg h1.mono, PE.imp (pe_un un_neg h1.run) fun σ H Q ⟨B, F, ρ, S, h⟩ => liftE.of h1.mono (Ex.refl _) S h fun d ρ1 h v F1 H1 e1 S1 r1 => by
    cases d <;> try exact h.elim
    cases r1.int_inv
    exact ⟨_, rfl, h _ F1 H1 e1 S1 (.int _)⟩⟩
def eIf (t : DT) (da db : DE) : DE := fun ρ X K => t ρ X fun c ρ1 => if c = true then da ρ1 X K else db ρ1 X K
theorem mono_eIf (m : MonoT ta) (m1 : MonoE da) (m2 : MonoE db) : MonoE (eIf ta da db) := ⟨fun hx hk h => m.go hx (fun c ρ h => by
  cases c with
  | true => exact m1.go hx hk h
  | false => exact m2.go hx hk h) h⟩
theorem pd_ifExp (h : PDT X W c ta) (h1 : PD X W a da) (h2 : PD X W b db) : PD X W (.IfExp c a b pos) (eIf ta da db) :=
  ⟨mono_eIf h.mono h1.mono h2.mono, PE.imp (pe_ifExp h.run h1.run h2.run) fun σ H Q ⟨B, F, ρ, S, h'⟩ => liftT.of h.mono (Ex.refl _) S h' fun c ρ1 h F1 H1 e1 S1 => by
    cases c with
    | true => exact liftE.of h1.mono e1 S1 h fun c ρ2 h v F2 H2 e2 S2 r2 => h v F2 H2 (e1.trans e2) S2 r2
    | false => exact liftE.of h2.mono e1 S1 h fun c ρ2 h v F2 H2 e2 S2 r2 => h v F2 H2 (e1.trans e2) S2 r2⟩
/-- a < b < c -/
def eChain (f f' : DOp) (da db dc : DE) : DE := fun ρ X K => da ρ X fun x ρ1 => db ρ1 X fun y ρ2 => f x y fun z => asB z fun k => if k = true then dc ρ2 X fun w ρ3 => f' y w fun u => K u ρ3 else K (.bool false) ρ2
theorem mono_eChain {f f' : DOp} (mf : MonoO f) (mf' : MonoO f') (m1 : MonoE da) (m2 : MonoE db) (m3 : MonoE dc') : MonoE (eChain f f' da db dc') := ⟨fun hx hk h => m1.go hx (fun x ρ h => m2.go hx (fun y ρ h => mf.go (fun z h => by
  obtain ⟨c, rfl, h⟩ := asB.eq h
  cases c with
  | true => exact m3.go hx (fun w ρ h => mf'.go (fun u h => hk _ _ h) h) h
  | false => exact hk _ _ h) h) h) h⟩
theorem pd_chain {op op' : CmpOp} {r r' : R2} {f f' : DOp} (ho : OpR X (compareOp op) r) (hr : ROp X.K r f) (ho' : OpR X (compareOp op') r') (hr' : ROp X.K r' f') (ha : PD X W a da) (hb : PD X W b db) (hc : PD X W c dc')
    (hm : lastMarks [op, op'] [b, c] = false := by with_unfolding_all rfl) : PD X W (.Compare a [op, op'] [b, c] pos) (eChain f f' da db dc') :=
  ⟨mono_eChain hr.mono hr'.mono ha.mono hb.mono hc.mono, PE.imp (pe_chain ho ho' ha.run hb.run hc.run hm) fun σ H Q ⟨B, F, ρ, S, h⟩ => liftE.of ha.mono (Ex.refl _) S h fun x ρ1 h v F1 H1 e1 S1 r1 =>
    liftE.of hb.mono e1 S1 h fun y ρ2 h w F2 H2 e2 S2 r2 => hr.run S2 (r1.mono e2) r2 h fun z h u F3 H3 e3 S3 r3 => by
      obtain ⟨k, rfl, h⟩ := asB.eq h
      refine ⟨k, r3.bool_inv, ?_⟩
      cases k with
      | true => exact liftE.of hc.mono ((e1.trans e2).trans e3) S3 h fun w' ρ3 h v' F4 H4 e4 S4 r4 => hr'.run S4 ((r2.mono e3).mono e4) r4 h fun z h u F' H' e5 S5 r5 => h u F' H' ((((e1.trans e2).trans e3).trans e4).trans e5) S5 r5
      | false => exact h _ F3 H3 ((e1.trans e2).trans e3) S3 (.bool false)⟩
theorem pdt_chain {op op' : CmpOp} {r r' : R2} {f f' : DOp} (ho : OpR X (compareOp op) r) (hr : ROp X.K r f) (ho' : OpR X (compareOp op') r') (hr' : ROp X.K r' f') (ha : PD X W a da) (hb : PD X W b db) (hc : PD X W c dc')
    (hm : lastMarks [op, op'] [b, c] = false := by with_unfolding_all rfl) : PDT X W (.Compare a [op, op'] [b, c] pos) (bV (eChain f f' da db dc')) := by
  refine ⟨mono_bV (mono_eChain hr.mono hr'.mono ha.mono hb.mono hc.mono), PT.imp (pt_chain ho ho' ha.run hb.run hc.run hm) fun σ H Q h => ?_⟩
  have h' := liftT_bV (mono_eChain hr.mono hr'.mono ha.mono hb.mono hc.mono) h
  obtain ⟨B, F, ρ, S, h⟩ := h'
  show tTest _ _ _ _
  refine liftE.of ha.mono (Ex.refl _) S h fun x ρ1 h v F1 H1 e1 S1 r1 =>
    liftE.of hb.mono e1 S1 h fun y ρ2 h w F2 H2 e2 S2 r2 => hr.run S2 (r1.mono e2) r2 h fun z h u F3 H3 e3 S3 r3 => ?_
  obtain ⟨k, rfl, h⟩ := asB.eq h
  refine ⟨k, r3.bool_inv, ?_⟩
  cases k with
  | true => exact liftE.of hc.mono ((e1.trans e2).trans e3) S3 h fun w' ρ3 h v' F4 H4 e4 S4 r4 => hr'.run S4 ((r2.mono e3).mono e4) r4 h fun z h u F' H' e5 S5 r5 => h u F' H' ((((e1.trans e2).trans e3).trans e4).trans e5) S5 r5
  | false => exact h _ F3 H3 ((e1.trans e2).trans e3) S3 (.bool false)

/-! ### arguments, displays -/
def aNil : DAs := fun ρ _ K => K [] ρ
def aCons (de : DE) (das : DAs) : DAs := fun ρ X K => de ρ X fun x ρ1 => das ρ1 X fun xs ρ2 => K (.d x :: xs) ρ2
/-- the slot i is lent -/
def aBor (i : Nat) (das : DAs) : DAs := fun ρ X K => isOw (gt ρ i) = true ∧ das ρ X fun xs ρ2 => K (.bor i :: xs) ρ2
variable {das : DAs} {es : List Expr}
theorem mono_aNil : MonoA aNil := ⟨fun hx hk h => hk _ _ h⟩
theorem mono_aCons (m1 : MonoE da) (m2 : MonoA das) : MonoA (aCons da das) := ⟨fun hx hk h => m1.go hx (fun x ρ h => m2.go hx (fun xs ρ h => hk _ _ h) h) h⟩
theorem mono_aBor {i : Nat} (m2 : MonoA das) : MonoA (aBor i das) := ⟨fun hx hk h => ⟨h.1, m2.go hx (fun xs ρ h => hk _ _ h) h.2⟩⟩
theorem pda_nil : PDA X W [] aNil := ⟨mono_aNil, PA.imp pa_nil fun σ H Q ⟨B, F, ρ, S, h⟩ => h [] F H (Ex.refl _) S trivial⟩
theorem pda_cons (h1 : PD X W a da) (h2 : PDA X W es das) (hs : starEach (a :: es) X.env = (false, eval a X.env) :: starEach es X.env := by rfl) : PDA X W (a :: es) (aCons da das) :=
  ⟨mono_aCons h1.mono h2.mono, PA.imp (pa_cons h1.run h2.run hs) fun σ H Q ⟨B, F, ρ, S, h⟩ => liftE.of h1.mono (Ex.refl _) S h fun x ρ1 h v F1 H1 e1 S1 r1 =>
    liftA.of h2.mono e1 S1 h fun xs ρ2 h vs F2 H2 e2 S2 r2 => h (v :: vs) F2 H2 (e1.trans e2) S2 ⟨r1.mono e2, r2⟩⟩
theorem pda_bor (i : Nat) {x : Str} {p : Pos} (h2 : PDA X W es das) (hN : X.N[i]? = some x := by rfl) (hv : Vis X.env.scope x := by first | exact Or.inl rfl | exact Or.inr (Or.inl rfl) | exact Or.inr (Or.inr rfl)) (hd : (x == ("__debug__" : Str)) = false := by decide)
    (hcd : (x == ("__classdict__" : Str)) = false := by decide) (hs : starEach (.Name x p :: es) X.env = (false, eval (.Name x p) X.env) :: starEach es X.env := by rfl) : PDA X W (.Name x p :: es) (aBor i das) := by
  refine ⟨mono_aBor h2.mono, PA.imp (pa_cons (pe_var (i := i) hN hv hd hcd) h2.run hs) fun σ H Q ⟨B, F, ρ, S, h⟩ => ?_⟩
  have h1 : isOw (gt ρ i) = true := h.1
  cases hs : gt ρ i with
  | un => rw [hs] at h1; cases h1
  | fz d => rw [hs] at h1; cases h1
  | ow b' c' =>
    obtain ⟨a, ha, _⟩ := S.ow hs
    exact ⟨_, ha, liftA.of h2.mono (Ex.refl _) S h.2 fun xs ρ2 h vs F2 H2 e2 S2 r2 => h (_ :: vs) F2 H2 e2 S2 ⟨ha, r2⟩⟩
end
end DL
set_option Elab.async false
set_option linter.all false
set_option maxRecDepth 100000
set_option maxHeartbeats 1000000
/-! DL4: displays, subscripts, fields, built-ins, calls of defs. -/
namespace DL
open PySem L2 Evl
section
variable {X : Cx} {W : WX} {a b c e : Expr} {da db dc' : DE} {das : DAs} {es : List Expr} {pos : Pos}
theorem le_line {n : Nat} (h : n ≤ 1000000) : n ≤ sizeLine := Nat.le_trans h (by rw [sizeLine_eq]; decide)
def allD : List AV → (List D → Prop) → Prop
  | [], k => k []
  | .d x :: as, k => allD as fun xs => k (x :: xs)
  | .bor _ :: _, _ => False
theorem allD.mono : ∀ {as : List AV} {k k' : List D → Prop}, (∀ xs, k xs → k' xs) → allD as k → allD as k'
  | [], _, _, hk, h => hk _ h
  | .d x :: as, _, _, hk, h => allD.mono (as := as) (fun xs h => hk _ h) h
  | .bor _ :: _, _, _, _, h => h.elim
theorem allD.reps {K : PySem.W.Frag} {F : Hp} {σ : L2.St} : ∀ {as : List AV} {vs : List V} {k : List D → Prop}, AvR K F σ vs as → allD as k → ∃ ds, Reps K F vs ds ∧ k ds
  | [], [], _, _, h => ⟨[], .nil, h⟩
  | .d x :: as, v :: vs, _, r, h => by
    obtain ⟨ds, r2, q⟩ := allD.reps r.2 h
    exact ⟨x :: ds, .cons r.1 r2, q⟩
  | .bor _ :: _, _, _, _, h => h.elim
  | [], _ :: _, _, r, _ => r.elim
  | .d _ :: _, [], _, r, _ => r.elim
def eTup (das : DAs) : DE := fun ρ X K => das ρ X fun as ρ' => allD as fun ds => ds.length ≤ 1000000 ∧ K (.tuple ds) ρ'
def eLst (das : DAs) : DE := fun ρ X K => das ρ X fun as ρ' => allD as fun ds => ds.length ≤ 1000000 ∧ K (.list ds) ρ'
theorem mono_eTup (m : MonoA das) : MonoE (eTup das) := ⟨fun hx hk h => m.go hx (fun as ρ h => allD.mono (fun xs h => ⟨h.1, hk _ _ h.2⟩) h) h⟩
theorem mono_eLst (m : MonoA das) : MonoE (eLst das) := ⟨fun hx hk h => m.go hx (fun as ρ h => allD.mono (fun xs h => ⟨h.1, hk _ _ h.2⟩) h) h⟩
theorem pd_tup {x1} (h : PDA X W es das) : PD X W (.Tuple es x1 pos) (eTup das) :=
  ⟨mono_eTup h.mono, PE.imp (pe_tup h.run) fun σ H Q ⟨B, F, ρ, S, q⟩ => liftA.of h.mono (Ex.refl _) S q fun as ρ1 h vs F1 H1 e1 S1 r1 => by
    obtain ⟨ds, r, hl, q⟩ := allD.reps r1 h
    refine ⟨by rw [r.length]; exact le_line hl, fun p hp => ?_⟩
    obtain ⟨e2, S2⟩ := S1.alloc (o := .tup vs) hp
    exact q _ _ _ (e1.trans e2) S2 (.tup upd_same (r.mono e2))⟩
theorem pd_lst (h : PDA X W es das) : PD X W (.List es pos) (eLst das) :=
  ⟨mono_eLst h.mono, PE.imp (pe_lst h.run) fun σ H Q ⟨B, F, ρ, S, q⟩ => liftA.of h.mono (Ex.refl _) S q fun as ρ1 h vs F1 H1 e1 S1 r1 => by
    obtain ⟨ds, r, hl, q⟩ := allD.reps r1 h
    refine ⟨by rw [r.length]; exact le_line hl, fun p hp => ?_⟩
    obtain ⟨e2, S2⟩ := S1.alloc (o := .lst vs) hp
    exact q _ _ _ (e1.trans e2) S2 (.lst upd_same (r.mono e2))⟩

/-! ### subscripts -/
def dIx : DOp
  | .list xs, .int i, P => ∃ d, atI xs i = some d ∧ P d
  | .tuple xs, .int i, P => ∃ d, atI xs i = some d ∧ P d
  | .rol xs, .int i, P => ∃ d, atI xs i = some d ∧ P d
  | _, _, _ => False
theorem atI_reps {K : PySem.W.Frag} {F : Hp} {vs : List V} {ds : List D} (r : Reps K F vs ds) {i : Int} {d : D} (h : atI ds i = some d) : ∃ v, atI vs i = some v ∧ Rep K F v d := by
  unfold atI at h ⊢
  rw [r.length]
  cases hi : ixN ds.length i with
  | none => rw [hi] at h; cases h
  | some j =>
    rw [hi] at h
    obtain ⟨v, hv, rv⟩ := r.get_some (show ds[j]? = some d from h)
    exact ⟨v, hv, rv⟩
theorem ri_ix {K : PySem.W.Frag} : ROp K (rIx K) dIx := by
  refine ⟨⟨fun {x y P P'} hp h => ?_⟩, fun {B F ρ σ H v w x y Q P} S rx ry h k => ?_⟩
  · cases x <;> cases y <;> first | exact h.elim | (obtain ⟨d, h1, h2⟩ := h; exact ⟨d, h1, hp _ h2⟩)
  · cases x <;> cases y <;> try exact h.elim
    · obtain ⟨d, h1, h2⟩ := h
      obtain ⟨p, vs, rfl, e1, r⟩ := rx.list_inv
      cases ry.int_inv
      obtain ⟨u, hu, ru⟩ := atI_reps r h1
      exact .inl ⟨p, vs, _, u, rfl, rfl, .inl (.inl (S.ex.on e1)), hu, k _ h2 u F H (Ex.refl _) S ru⟩
    · obtain ⟨d, h1, h2⟩ := h
      obtain ⟨p, vs, rfl, e1, r⟩ := rx.tuple_inv
      cases ry.int_inv
      obtain ⟨u, hu, ru⟩ := atI_reps r h1
      exact .inr (.inl ⟨p, vs, _, u, rfl, rfl, xl_t S.ex e1, hu, k _ h2 u F H (Ex.refl _) S ru⟩)
    · obtain ⟨d, h1, h2⟩ := h
      obtain ⟨p, vs, rfl, e1, r⟩ := rx.rol_inv
      cases ry.int_inv
      obtain ⟨u, hu, ru⟩ := atI_reps r h1
      exact .inl ⟨p, vs, _, u, rfl, rfl, xl_l S.ex e1, hu, k _ h2 u F H (Ex.refl _) S ru⟩
theorem pd_ix (ha : PD X W a da) (hb : PD X W b db) (hs : PlainIx b) : PD X W (.Subscript a b pos) (eOp dIx da db) :=
  ⟨mono_op (ri_ix (K := X.K)).mono ha.mono hb.mono, PE.imp (pe_ix ix_seq ha.run hb.run hs) fun σ H Q h => opT ri_ix ha.mono hb.mono h⟩
/-- the slot's owned list, read by an index -/
def ofLst : Sl → (List D → Prop) → Prop
  | .ow _ (.lst ds), k => k ds
  | _, _ => False
theorem ofLst.eq {s : Sl} {k : List D → Prop} (h : ofLst s k) : ∃ b ds, s = .ow b (.lst ds) ∧ k ds := by
  cases s with
  | un => exact h.elim
  | fz d => exact h.elim
  | ow b c => cases c <;> first | exact ⟨_, _, rfl, h⟩ | exact h.elim
theorem St.lstAt {K : PySem.W.Frag} {B : Base} {F : Hp} {ρ : Env} {σ : L2.St} {H : Hp} (S : St K B F ρ σ H) {i : Nat} {b : Bool} {ds : List D} (h : gt ρ i = .ow b (.lst ds)) : ∃ p vs, σ[i]? = some (some (.ref p)) ∧ H p = some (.lst vs) ∧ Reps K F vs ds := by
  obtain ⟨p, e1, ⟨_, _, o, ho, hc⟩, _⟩ := S.ow h
  obtain ⟨vs, rfl, r⟩ := hc
  exact ⟨p, vs, e1, ho, r⟩
def eIxS (i : Nat) (db : DE) : DE := fun ρ X K => isOw (gt ρ i) = true ∧ db ρ X fun k ρ1 => match k with
  | .int j => ofLst (gt ρ1 i) fun ds => ∃ d, atI ds j = some d ∧ K d ρ1
  | _ => False
theorem St.isOw_ref {K : PySem.W.Frag} {B : Base} {F : Hp} {ρ : Env} {σ : L2.St} {H : Hp} (S : St K B F ρ σ H) {i : Nat} (h : isOw (gt ρ i) = true) : ∃ p, σ[i]? = some (some (.ref p)) := by
  cases hs : gt ρ i with
  | un => rw [hs] at h; cases h
  | fz d => rw [hs] at h; cases h
  | ow b c => obtain ⟨a, ha, _⟩ := S.ow hs; exact ⟨a, ha⟩
theorem mono_eIxS {i : Nat} (m : MonoE db) : MonoE (eIxS i db) := ⟨fun hx hk h => ⟨h.1, m.go hx (fun k ρ h => by
  cases k <;> try exact h.elim
  obtain ⟨b, ds, e, d, h1, h2⟩ := ofLst.eq h
  show ofLst _ _
  rw [e]
  exact ⟨d, h1, hk _ _ h2⟩) h.2⟩⟩
theorem pd_ixS (i : Nat) {x : Str} {p : Pos} (hb : PD X W b db) (hs : PlainIx b) (hN : X.N[i]? = some x := by rfl) (hv : Vis X.env.scope x := by first | exact Or.inl rfl | exact Or.inr (Or.inl rfl) | exact Or.inr (Or.inr rfl)) (hd : (x == ("__debug__" : Str)) = false := by decide)
    (hcd : (x == ("__classdict__" : Str)) = false := by decide) : PD X W (.Subscript (.Name x p) b pos) (eIxS i db) := by
  refine ⟨mono_eIxS hb.mono, PE.imp (pe_ix ix_list (pe_var (i := i) hN hv hd hcd) hb.run hs) fun σ H Q ⟨B, F, ρ, S, h⟩ => ?_⟩
  obtain ⟨q, e1⟩ := S.isOw_ref h.1
  refine ⟨_, e1, liftE.of hb.mono (Ex.refl _) S h.2 fun k ρ1 h v F1 H1 e2 S1 r1 => ?_⟩
  cases k <;> try exact h.elim
  obtain ⟨b, ds, e, d, h1, h2⟩ := ofLst.eq h
  obtain ⟨q', vs, e1', hq, r⟩ := S1.lstAt e
  rw [e1] at e1'
  have : q = q' := by simpa using e1'
  subst this
  cases r1.int_inv
  obtain ⟨u, hu, ru⟩ := atI_reps r h1
  exact ⟨q, vs, _, u, rfl, rfl, .inl (.inl hq), hu, h2 u F1 H1 e2 S1 ru⟩

/-! ### slices -/
def cutD (xs : List D) (lo hi : Option Int) : List D := (xs.drop (HT.sIx xs.length 0 lo)).take (HT.sIx xs.length xs.length hi - HT.sIx xs.length 0 lo)
theorem cutD_whole {xs : List D} {lo hi : Option Int} (z : HT.sIx xs.length 0 lo = 0 ∧ HT.sIx xs.length xs.length hi = xs.length) : cutD xs lo hi = xs := by
  unfold cutD
  rw [z.1, z.2, List.drop_zero, Nat.sub_zero, List.take_length]
theorem Reps.cut {K : PySem.W.Frag} {F : Hp} {vs : List V} {ds : List D} (r : Reps K F vs ds) (lo hi : Option Int) : Reps K F (cutV vs lo hi) (cutD ds lo hi) := by
  unfold cutV cutD
  rw [r.length]
  exact (r.drop _).take _
abbrev DPart := Env → XP → (Option Int → Env → Prop) → Prop
structure MonoP (de : DPart) : Prop where
  go : ∀ {ρ X X' K K'}, (∀ x ρ, X x ρ → X' x ρ) → (∀ r ρ, K r ρ → K' r ρ) → de ρ X K → de ρ X' K'
def liftO (K : PySem.W.Frag) (W : WX) (de : DPart) : TO := fun σ H Q => ∃ B F ρ, St K B F ρ σ H ∧ de ρ (xl K W B F σ) fun r ρ' => ∀ F' H', Ex F F' → St K B F' ρ' σ H' → Q r H'
structure PDO (X : Cx) (W : WX) (e : Option Expr) (de : DPart) : Prop where
  mono : MonoP de
  run : PO X e (liftO X.K W de)
theorem PO.imp {X : Cx} {e : Option Expr} {t t' : TO} (h : PO X e t) (hi : ∀ σ H Q, t' σ H Q → t σ H Q) : PO X e t' := ⟨fun pins s σ H Q I q => h.run pins s σ H Q I (hi σ H Q q)⟩
theorem liftO.of {K : PySem.W.Frag} {W : WX} {B : Base} {F0 F : Hp} {ρ : Env} {σ : L2.St} {H : Hp} {de : DPart} {k : Option Int → Env → Prop} {Q : Option Int → Hp → Prop} (m : MonoP de) (e : Ex F0 F) (S : St K B F ρ σ H) (h : de ρ (xl K W B F0 σ) k) (hk : ∀ r ρ1, k r ρ1 → ∀ F1 H1, Ex F F1 → St K B F1 ρ1 σ H1 → Q r H1) : liftO K W de σ H Q :=
  ⟨B, F, ρ, S, m.go (xl_up e) hk h⟩
def oNone : DPart := fun ρ _ K => K none ρ
def oSome (de : DE) : DPart := fun ρ X K => de ρ X fun d ρ1 => match d with
  | .int i => K (some i) ρ1
  | _ => False
theorem pdo_none : PDO X W none oNone := ⟨⟨fun hx hk h => hk _ _ h⟩, PO.imp po_none fun σ H Q ⟨B, F, ρ, S, h⟩ => h F H (Ex.refl _) S⟩
theorem pdo_some (h : PD X W e da) : PDO X W (some e) (oSome da) :=
  ⟨⟨fun hx hk h' => h.mono.go hx (fun d ρ h => by cases d <;> first | exact hk _ _ h | exact h.elim) h'⟩, PO.imp (po_some h.run) fun σ H Q ⟨B, F, ρ, S, q⟩ => liftE.of h.mono (Ex.refl _) S q fun d ρ1 h v F1 H1 e1 S1 r1 => by
    cases d <;> try exact h.elim
    exact ⟨_, r1.int_inv, h F1 H1 e1 S1⟩⟩
def dSl : D → Option Int → Option Int → (D → Prop) → Prop
  | .list xs, lo, hi, P => P (.list (cutD xs lo hi))
  | .rol xs, lo, hi, P => P (.list (cutD xs lo hi))
  | .tuple xs, lo, hi, P => P (.tuple (cutD xs lo hi))
  | _, _, _, _ => False
def eSl (da : DE) (dl dh : DPart) : DE := fun ρ X K => da ρ X fun x ρ1 => dl ρ1 X fun lo ρ2 => dh ρ2 X fun hi ρ3 => dSl x lo hi fun z => K z ρ3
def rSlAll (K : PySem.W.Frag) : V → Option Int → Option Int → Hp → VK → Prop := fun x lo hi H Q => rSlL K x lo hi H Q ∨ rSlA K x lo hi H Q
theorem pd_slice {lo hi : Option Expr} {p2 : Pos} {dl dh : DPart} (ha : PD X W a da) (hl : PDO X W lo dl) (hh : PDO X W hi dh) : PD X W (.Subscript a (.Slice lo hi none p2) pos) (eSl da dl dh) := by
  refine ⟨⟨fun hx hk h => ha.mono.go hx (fun x ρ h => hl.mono.go hx (fun l ρ h => hh.mono.go hx (fun u ρ h => ?_) h) h) h⟩, PE.imp (pe_slice (r := rSlAll X.K) (sl_list.or sl_tupA) ha.run hl.run hh.run) fun σ H Q ⟨B, F, ρ, S, h⟩ =>
    liftE.of ha.mono (Ex.refl _) S h fun x ρ1 h v F1 H1 e1 S1 r1 => liftO.of hl.mono e1 S1 h fun l ρ2 h F2 H2 e2 S2 => liftO.of hh.mono (e1.trans e2) S2 h fun u ρ3 h F3 H3 e3 S3 => ?_⟩
  · cases x <;> first | exact hk _ _ h | exact h.elim
  · have r3 := (r1.mono e2).mono e3
    have e := (e1.trans e2).trans e3
    cases x <;> try exact h.elim
    · obtain ⟨p, vs, rfl, q1, r⟩ := r3.list_inv
      refine .inl ⟨p, vs, rfl, .inl (.inl (S3.ex.on q1)), fun n hn => ?_⟩
      obtain ⟨e4, S4⟩ := S3.alloc (o := .lst (cutV vs l u)) hn
      exact h _ _ _ (e.trans e4) S4 (.lst upd_same ((r.cut l u).mono e4))
    · obtain ⟨p, vs, rfl, q1, r⟩ := r3.tuple_inv
      refine .inr ⟨p, vs, rfl, xl_t S3.ex q1, fun z => ?_, fun z n hn => ?_⟩
      · rw [r.length] at z
        have h' := h
        simp only [dSl] at h'
        rw [cutD_whole z] at h'
        exact h' _ F3 H3 e S3 r3
      · obtain ⟨e4, S4⟩ := S3.alloc (o := .tup (cutV vs l u)) hn
        exact h _ _ _ (e.trans e4) S4 (.tup upd_same ((r.cut l u).mono e4))
    · obtain ⟨p, vs, rfl, q1, r⟩ := r3.rol_inv
      refine .inl ⟨p, vs, rfl, xl_l S3.ex q1, fun n hn => ?_⟩
      obtain ⟨e4, S4⟩ := S3.alloc (o := .lst (cutV vs l u)) hn
      exact h _ _ _ (e.trans e4) S4 (.lst upd_same ((r.cut l u).mono e4))

/-! ### fields -/
/-- the j-th field of an instance of the class at C with these fields -/
def eAttr (C : Addr) (lay : List Str) (j : Nat) (da : DE) : DE := fun ρ X K => da ρ X fun d ρ1 => match d with
  | .ob C' lay' xs => C' = C ∧ lay' = lay ∧ ∃ x, xs[j]? = some x ∧ K x ρ1
  | _ => False
theorem lookup_at {f : Str} : ∀ {fs : List (Str × V)} {j : Nat} {v : V}, (fs.map (·.1))[j]? = some f → ((fs.map (·.1)).take j).all (fun g => !(f == g)) = true → (fs.map (·.2))[j]? = some v → fs.lookup f = some v
  | [], j, v, h, _, _ => by simp at h
  | (g, w) :: fs, 0, v, h, _, hv => by
    simp at h hv
    subst h; subst hv
    simp
  | (g, w) :: fs, j + 1, v, h, ha, hv => by
    simp only [List.map_cons, List.take_succ_cons, List.all_cons, Bool.and_eq_true, Bool.not_eq_true'] at ha
    rw [List.lookup_cons, ha.1]
    exact lookup_at (fs := fs) (j := j) (by simpa using h) ha.2 (by simpa using hv)
theorem pd_attr {C : Addr} {lay : List Str} {j : Nat} {f : Str} (hc : Cls X.K C) (hn : NoAttr X.K C f) (hj : lay[j]? = some f) (hb4 : (lay.take j).all (fun g => !(f == g)) = true) (ha : PD X W a da)
    (hb : attributeBase a f X.env (eval a X.env) = eval a X.env := by rfl) : PD X W (.Attribute a f pos) (eAttr C lay j da) := by
  refine ⟨⟨fun hx hk h => ha.mono.go hx (fun d ρ h => ?_) h⟩, PE.imp (pe_fld ha.run hb) fun σ H Q ⟨B, F, ρ, S, h⟩ => liftE.of ha.mono (Ex.refl _) S h fun d ρ1 h v F1 H1 e1 S1 r1 => ?_⟩
  · cases d <;> try exact h.elim
    obtain ⟨h1, h2, x, h3, h4⟩ := h
    exact ⟨h1, h2, x, h3, hk _ _ h4⟩
  · cases d <;> try exact h.elim
    obtain ⟨rfl, rfl, x, h3, h4⟩ := h
    obtain ⟨p, dx, fs, rfl, q1, q2, r⟩ := r1.ob_inv
    obtain ⟨u, hu, ru⟩ := r.get_some h3
    subst q2
    exact ⟨p, _, dx, fs, u, rfl, S1.ex.on q1, hc, hn, lookup_at hj hb4 hu, h4 u F1 H1 e1 S1 ru⟩

/-! ### built-ins by their names -/
/-- what a built-in makes of data -/
abbrev DB := List D → (D → Prop) → Prop
structure RCall (K : PySem.W.Frag) (r : List V → Hp → VK → Prop) (f : DB) : Prop where
  mono : ∀ {xs P P'}, (∀ z, P z → P' z) → f xs P → f xs P'
  run : ∀ {B F ρ σ H vs xs Q P}, St K B F ρ σ H → Reps K F vs xs → f xs P → (∀ z, P z → ∀ u F' H', Ex F F' → St K B F' ρ σ H' → Rep K F' u z → Q u H') → r vs H Q
def eB (f : DB) (das : DAs) : DE := fun ρ X K => das ρ X fun as ρ' => allD as fun ds => f ds fun z => K z ρ'
theorem mono_eB {r} {f : DB} {K : PySem.W.Frag} (hr : RCall K r f) (m : MonoA das) : MonoE (eB f das) := ⟨fun hx hk h => m.go hx (fun as ρ h => allD.mono (fun xs h => hr.mono (fun _ h => hk _ _ h) h) h) h⟩
theorem liftCB {r} {f : DB} (hr : RCall X.K r f) (m : MonoA das) {σ : L2.St} {H : Hp} {Q : VK} (h : liftE X.K W (eB f das) σ H Q) : tCB r (liftA X.K W das) σ H Q := by
  obtain ⟨B, F, ρ, S, h⟩ := h
  refine liftA.of m (Ex.refl _) S h fun as ρ1 h vs F1 H1 e1 S1 r1 => ?_
  obtain ⟨ds, r, q⟩ := allD.reps r1 h
  exact hr.run S1 r q fun z h u F' H' e2 S2 r2 => h u F' H' (e1.trans e2) S2 r2
theorem pd_callB {r} {f : DB} {x : Str} {id : String} {p : Pos} (hc : CallR X (.builtin id) r) (hr : RCall X.K r f) (hg : Gl X x) (hm : X.mg x = none) (hv : bootBuiltins x = some (.builtin id)) (ha : PDA X W (e :: es) das) (hn : x ≠ "__name__" := by decide) (hdb : (x == ("__debug__" : Str)) = false := by decide)
    (he : starEach (e :: es) X.env = (false, eval e X.env) :: starEach es X.env := by rfl) (hpl : (backTo pos (starEach es X.env)).any (·.1) = false := by rfl) : PD X W (.Call (.Name x p) (e :: es) [] pos) (eB f das) :=
  ⟨mono_eB hr ha.mono, PE.imp (pe_callB hc hg hm hv ha.run hn hdb he hpl) fun σ H Q h => liftCB hr ha.mono h⟩
theorem pd_callTy {r} {f : DB} {x : Str} {T : String} {p : Pos} (hc : CallR X (.type T) r) (hr : RCall X.K r f) (hg : Gl X x) (hm : X.mg x = none) (hv : bootBuiltins x = some (.type T)) (ha : PDA X W (e :: es) das) (hn : x ≠ "__name__" := by decide) (hdb : (x == ("__debug__" : Str)) = false := by decide)
    (he : starEach (e :: es) X.env = (false, eval e X.env) :: starEach es X.env := by rfl) (hpl : (backTo pos (starEach es X.env)).any (·.1) = false := by rfl) : PD X W (.Call (.Name x p) (e :: es) [] pos) (eB f das) :=
  ⟨mono_eB hr ha.mono, PE.imp (pe_callTy hc hg hm hv ha.run hn hdb he hpl) fun σ H Q h => liftCB hr ha.mono h⟩
end
end DL
set_option Elab.async false
set_option linter.all false
set_option maxRecDepth 100000
set_option maxHeartbeats 1000000
/-! DL5: contracts and calls. -/
namespace DL
open PySem L2 Evl
/-- what comes back: a datum, or a new object of one's own -/
inductive Rv where
  | d (x : D)
  | nw (c : Ct)
def Rv.toD : Rv → D
  | .d x => x
  | .nw c => c.d
/-- a contract: the arguments, what is wanted of an exception, of the result (with what became of the lent ones) -/
abbrev DC := List Sl → (Exn → List Sl → Prop) → (Rv → List Sl → Prop) → Prop
structure MonoC (dc : DC) : Prop where
  go : ∀ {as X X' R R'}, (∀ x o, X x o → X' x o) → (∀ r o, R r o → R' r o) → dc as X R → dc as X' R'
def RvR (K : PySem.W.Frag) (B : Base) (F H : Hp) (v : V) : Rv → Prop
  | .d x => Rep K F v x
  | .nw c => ∃ a, v = .ref a ∧ OwR K B F H a c ∧ B.H0 a = none
def spD (K : PySem.W.Frag) (n : Nat) (dc : DC) : Sp := fun vs H Q E => vs.length = n ∧ ∃ B F args, St K B F args (vs.map some) H ∧
  dc args (fun x outs => ∀ F' H' dd v, Ex F F' → St K B F' outs (vs.map some) H' → H' dd = some (.xd [(x.f, v)]) → Rep K F' v x.d → E (.ref x.C) (some dd) H')
    fun r outs => ∀ v F' H', Ex F F' → St K B F' outs (vs.map some) H' → RvR K B F' H' v r → Q v H'

/-! ### the caller's side -/
def lentOf : Sl → Sl
  | .ow _ c => .ow true c
  | _ => .un
def argsOf (ρ : Env) : List AV → List Sl
  | [] => []
  | .d x :: as => .fz x :: argsOf ρ as
  | .bor i :: as => lentOf (gt ρ i) :: argsOf ρ as
def lend : Sl → Sl → Sl
  | .ow b _, .ow _ c => .ow b c
  | _, _ => .un
def putOuts : List AV → List Sl → Env → Env
  | .d _ :: as, _ :: os, ρ => putOuts as os ρ
  | .bor i :: as, o :: os, ρ => putOuts as os (ρ.set i (lend (gt ρ i) o))
  | _, _, ρ => ρ
def isBor (i : Nat) : AV → Bool
  | .bor j => i == j
  | .d _ => false
def borOk (ρ : Env) : List AV → Bool
  | [] => true
  | .d _ :: as => borOk ρ as
  | .bor i :: as => isOw (gt ρ i) && (!as.any (isBor i) && borOk ρ as)
def eCall (n : Nat) (dc : DC) (das : DAs) : DE := fun ρ X K => das ρ X fun as ρ1 => as.length = n ∧ borOk ρ1 as = true ∧ dc (argsOf ρ1 as) (fun x outs => X x (putOuts as outs ρ1)) fun r outs => K r.toD (putOuts as outs ρ1)
section
variable {K : PySem.W.Frag} {B : Base} {F F' : Hp} {ρ : Env} {σ : L2.St} {H H' : Hp} {as : List AV} {vs : List V} {outs : List Sl}
theorem argsOf_length : ∀ {as : List AV}, (argsOf ρ as).length = as.length
  | [] => rfl
  | .d _ :: as => by simp [argsOf, argsOf_length (as := as)]
  | .bor _ :: as => by simp [argsOf, argsOf_length (as := as)]
theorem AvR.length : ∀ {vs : List V} {as : List AV}, AvR K F σ vs as → vs.length = as.length
  | [], [], _ => rfl
  | v :: vs, .d x :: as, h => by simp [AvR.length h.2]
  | v :: vs, .bor i :: as, h => by simp [AvR.length h.2]
  | [], .d _ :: _, h => h.elim
  | [], .bor _ :: _, h => h.elim
  | _ :: _, [], h => h.elim
/-- argument by argument -/
theorem AvR.at : ∀ {vs : List V} {as : List AV}, AvR K F σ vs as → ∀ (i : Nat) (v : V), vs[i]? = some v →
    (∃ x, as[i]? = some (.d x) ∧ Rep K F v x ∧ (argsOf ρ as).getD i .un = .fz x) ∨ ∃ j, as[i]? = some (.bor j) ∧ σ[j]? = some (some v) ∧ (argsOf ρ as).getD i .un = lentOf (gt ρ j)
  | [], [], _, i, v, h => by simp at h
  | w :: vs, .d x :: as, h, 0, v, e => by
    simp at e; subst e
    exact .inl ⟨x, rfl, h.1, rfl⟩
  | w :: vs, .bor j :: as, h, 0, v, e => by
    simp at e; subst e
    exact .inr ⟨j, rfl, h.1, rfl⟩
  | w :: vs, .d x :: as, h, i + 1, v, e => by
    have := AvR.at (vs := vs) (as := as) h.2 i v (by simpa using e)
    simpa [argsOf, List.getD] using this
  | w :: vs, .bor j :: as, h, i + 1, v, e => by
    have := AvR.at (vs := vs) (as := as) h.2 i v (by simpa using e)
    simpa [argsOf, List.getD] using this
  | [], _ :: _, h, _, _, _ => by cases ‹AV› <;> exact h.elim
  | _ :: _, [], h, _, _, _ => h.elim
theorem borOk_at {ρ : Env} : ∀ {as : List AV}, borOk ρ as = true → ∀ (i j p : Nat), as[i]? = some (.bor p) → as[j]? = some (.bor p) → i = j
  | [], _, i, j, p, h, _ => by simp at h
  | .d _ :: as, hb, 0, j, p, h, _ => by simp at h
  | .d _ :: as, hb, i + 1, 0, p, _, h => by simp at h
  | .d _ :: as, hb, i + 1, j + 1, p, h1, h2 => by rw [borOk_at (as := as) (by simpa [borOk] using hb) i j p (by simpa using h1) (by simpa using h2)]
  | .bor q :: as, hb, 0, 0, p, _, _ => rfl
  | .bor q :: as, hb, 0, j + 1, p, h1, h2 => by
    simp at h1; subst h1
    simp only [borOk, Bool.and_eq_true, Bool.not_eq_true'] at hb
    have : as.any (isBor q) = true := List.any_eq_true.mpr ⟨.bor q, List.mem_of_getElem? (by simpa using h2), by simp [isBor]⟩
    rw [hb.2.1] at this; cases this
  | .bor q :: as, hb, i + 1, 0, p, h1, h2 => by
    simp at h2; subst h2
    simp only [borOk, Bool.and_eq_true, Bool.not_eq_true'] at hb
    have : as.any (isBor q) = true := List.any_eq_true.mpr ⟨.bor q, List.mem_of_getElem? (by simpa using h1), by simp [isBor]⟩
    rw [hb.2.1] at this; cases this
  | .bor q :: as, hb, i + 1, j + 1, p, h1, h2 => by
    simp only [borOk, Bool.and_eq_true] at hb
    rw [borOk_at (as := as) hb.2.2 i j p (by simpa using h1) (by simpa using h2)]
theorem putOuts_length : ∀ {as : List AV} {outs : List Sl} {ρ : Env}, (putOuts as outs ρ).length = ρ.length
  | [], _, _ => rfl
  | .d _ :: as, [], _ => rfl
  | .bor _ :: as, [], _ => rfl
  | .d _ :: as, _ :: os, ρ => by rw [putOuts, putOuts_length]
  | .bor i :: as, o :: os, ρ => by rw [putOuts, putOuts_length]; simp
/-- behind a call: a slot that was not lent is as it was -/
theorem putOuts_ne : ∀ {as : List AV} {outs : List Sl} {ρ : Env} {j : Nat}, (∀ i : Nat, as[i]? ≠ some (.bor j)) → (putOuts as outs ρ).getD j .un = ρ.getD j .un
  | [], _, _, _, _ => rfl
  | .d _ :: as, [], _, _, _ => rfl
  | .bor _ :: as, [], _, _, _ => rfl
  | .d _ :: as, _ :: os, ρ, j, h => by rw [putOuts]; exact putOuts_ne fun i => by simpa using h (i + 1)
  | .bor i :: as, o :: os, ρ, j, h => by
    have hij : i ≠ j := fun z => h 0 (by simp [z])
    rw [putOuts, putOuts_ne fun i => by simpa using h (i + 1), getD_set_ne hij]
/-- one that was lent holds what became of it -/
theorem putOuts_at {ρ' : Env} : ∀ {as : List AV} {outs : List Sl} {ρ : Env} {i j : Nat}, borOk ρ' as = true → as[i]? = some (.bor j) → i < outs.length → j < ρ.length → (putOuts as outs ρ).getD j .un = lend (ρ.getD j .un) (outs.getD i .un)
  | [], _, _, i, j, _, h, _, _ => by simp at h
  | .d _ :: as, [], _, i, j, _, _, h, _ => by simp at h
  | .bor _ :: as, [], _, i, j, _, _, h, _ => by simp at h
  | .d _ :: as, _ :: os, ρ, 0, j, _, h, _, _ => by simp at h
  | .d _ :: as, o :: os, ρ, i + 1, j, hb, h, hl, hr => by
    rw [putOuts, putOuts_at (ρ' := ρ') (i := i) (by simpa [borOk] using hb) (by simpa using h) (by simpa using hl) hr]; rfl
  | .bor q :: as, o :: os, ρ, 0, j, hb, h, hl, hr => by
    simp at h; subst h
    simp only [borOk, Bool.and_eq_true, Bool.not_eq_true'] at hb
    rw [putOuts, putOuts_ne (fun i z => ?_), getD_set_self hr]
    · rfl
    · have : as.any (isBor q) = true := List.any_eq_true.mpr ⟨.bor q, List.mem_of_getElem? z, by simp [isBor]⟩
      rw [hb.2.1] at this; cases this
  | .bor q :: as, o :: os, ρ, i + 1, j, hb, h, hl, hr => by
    simp only [borOk, Bool.and_eq_true, Bool.not_eq_true'] at hb
    have hq : q ≠ j := fun z => by
      subst z
      have : as.any (isBor q) = true := List.any_eq_true.mpr ⟨.bor q, List.mem_of_getElem? (by simpa using h), by simp [isBor]⟩
      rw [hb.2.1] at this; cases this
    rw [putOuts, putOuts_at (i := i) (ρ' := ρ') hb.2.2 (by simpa using h) (by simpa using hl) (by simpa using hr), getD_set_ne hq]; rfl
/-- an address that is lent -/
def Lent (σ : L2.St) (as : List AV) (a : Addr) : Prop := ∃ i j : Nat, as[i]? = some (.bor j) ∧ σ[j]? = some (some (.ref a))
theorem borOk_ow {ρ : Env} : ∀ {as : List AV}, borOk ρ as = true → ∀ (i p : Nat), as[i]? = some (.bor p) → isOw (gt ρ p) = true
  | [], _, i, p, h => by simp at h
  | .d _ :: as, hb, 0, p, h => by simp at h
  | .d _ :: as, hb, i + 1, p, h => borOk_ow (as := as) (by simpa [borOk] using hb) i p (by simpa using h)
  | .bor q :: as, hb, 0, p, h => by
    simp at h; subst h
    simp only [borOk, Bool.and_eq_true] at hb
    exact hb.1
  | .bor q :: as, hb, i + 1, p, h => by
    simp only [borOk, Bool.and_eq_true] at hb
    exact borOk_ow (as := as) hb.2.2 i p (by simpa using h)
open Classical in
/-- the ground of a callee -/
noncomputable def callee (F H : Hp) (σ : L2.St) (as : List AV) (vs : List V) : Base := ⟨fun a => if Lent σ as a then none else H a, F, H, vs.map some⟩
theorem callee_G {a : Addr} (h : ¬ Lent σ as a) : (callee F H σ as vs).G a = H a := by
  unfold callee
  exact if_neg h
theorem callee_G0 {a : Addr} (h : Lent σ as a) : (callee F H σ as vs).G a = none := by
  unfold callee
  exact if_pos h
theorem St.enter (S : St K B F ρ σ H) (r : AvR K F σ vs as) (hb : borOk ρ as = true) : St K (callee F H σ as vs) F (argsOf ρ as) (vs.map some) H := by
  refine ⟨S.ex, fun a u h => ?_, fun a h => .inl h, Ex.refl _, Thr.refl _, by rw [List.length_map, argsOf_length, r.length], fun i => ?_, fun i j a h1 h2 e1 e2 => ?_⟩
  · by_cases q : Lent σ as a
    · rw [callee_G0 q] at h; cases h
    · rw [callee_G q] at h; exact h
  · cases hv : vs[i]? with
    | none =>
      have : (argsOf ρ as).getD i .un = .un := by
        rw [List.getD, List.getElem?_eq_none]; · rfl
        rw [argsOf_length, ← r.length]
        exact List.getElem?_eq_none_iff.mp hv
      rw [this]; trivial
    | some v =>
      have hm : (vs.map some)[i]? = some (some v) := by simp [hv]
      rw [hm]
      rcases r.at (ρ := ρ) i v hv with ⟨x, _, rx, e⟩ | ⟨j, ej, es, e⟩
      · rw [e]; exact ⟨v, rfl, rx⟩
      · rw [e]
        cases hs : gt ρ j with
        | un => trivial
        | fz d => trivial
        | ow b c =>
          obtain ⟨a, e1, ⟨nf, ng, o, ho, hc⟩, _⟩ := S.ow hs
          rw [es] at e1
          have : v = .ref a := by simpa using e1
          subst this
          exact ⟨a, rfl, ⟨nf, callee_G0 ⟨i, j, ej, es⟩, o, ho, hc⟩, fun z => (by cases z), fun _ => hm⟩
  · have key : ∀ i, isOw ((argsOf ρ as).getD i .un) = true → (vs.map some)[i]? = some (some (.ref a)) → ∃ p, as[i]? = some (.bor p) ∧ σ[p]? = some (some (.ref a)) ∧ isOw (gt ρ p) = true := fun i h e => by
      have hv : vs[i]? = some (.ref a) := by
        rw [List.getElem?_map] at e
        cases q : vs[i]? with
        | none => rw [q] at e; cases e
        | some w => rw [q] at e; simpa using e
      rcases r.at (ρ := ρ) i _ hv with ⟨x, _, _, e'⟩ | ⟨p, ep, es, e'⟩
      · rw [e'] at h; cases h
      · refine ⟨p, ep, es, ?_⟩
        rw [e'] at h
        cases hs : gt ρ p with
        | un => rw [hs] at h; cases h
        | fz d => rw [hs] at h; cases h
        | ow b c => rfl
    obtain ⟨p, ep, es, ho⟩ := key i h1 e1
    obtain ⟨q, eq, es', ho'⟩ := key j h2 e2
    have : p = q := S.own p q a ho ho' es es'
    subst this
    exact borOk_at hb i j p ep eq
theorem St.leave (S : St K B F ρ σ H) (r : AvR K F σ vs as) (hb : borOk ρ as = true) (e : Ex F F') (S' : St K (callee F H σ as vs) F' outs (vs.map some) H') : St K B F' (putOuts as outs ρ) σ H' := by
  have hlen : outs.length = as.length := by rw [← S'.len, List.length_map, r.length]
  have fresh : ∀ a o c, F a = none → H a = some o → CtR K F a o c → F' a = none := fun a o c h1 h2 h3 => by
    cases h : F' a with
    | none => rfl
    | some u =>
      rcases S'.new a (by rw [h]; simp) with z | z | ⟨vs, z⟩
      · exact absurd h1 z
      · have z : H a = none := z
        rw [h2] at z; cases z
      · have z : H a = some (.tup vs) := z
        rw [h2] at z
        exact absurd (by simpa using z) (h3.noTup vs)
  have jlt : ∀ {i j : Nat} {v : V}, as[i]? = some (.bor j) → vs[i]? = some v → σ[j]? = some (some v) := fun {i j v} h1 h2 => by
    rcases r.at (ρ := ρ) i v h2 with ⟨x, e1, _⟩ | ⟨p, e1, e2, _⟩
    · rw [h1] at e1; cases e1
    · rw [h1] at e1; cases e1; exact e2
  have vat : ∀ {i j : Nat}, as[i]? = some (.bor j) → ∃ v, vs[i]? = some v := fun {i j} h => by
    have : i < vs.length := by rw [r.length]; exact (List.getElem?_eq_some_iff.mp h).1
    exact ⟨vs[i], by simp [this]⟩
  -- what owned slots there are now were owned before
  have was : ∀ j, isOw ((putOuts as outs ρ).getD j .un) = true → isOw (gt ρ j) = true := fun j h => by
    by_cases q : ∃ i : Nat, as[i]? = some (.bor j)
    · obtain ⟨i, hi⟩ := q
      by_cases hj : j < ρ.length
      · rw [putOuts_at hb hi (by rw [hlen]; exact (List.getElem?_eq_some_iff.mp hi).1) hj] at h
        show isOw (ρ.getD j .un) = true
        cases hs : ρ.getD j .un with
        | un => rw [hs] at h; cases h
        | fz d => rw [hs] at h; cases h
        | ow b c => rfl
      · rw [List.getD, List.getElem?_eq_none (by rw [putOuts_length]; omega)] at h; cases h
    · rw [putOuts_ne fun i z => q ⟨i, z⟩] at h; exact h
  refine ⟨S'.ex, fun a u h => ?_, fun a h => ?_, S.ge.trans e, S.thr.trans S'.thr, by rw [putOuts_length]; exact S.len, fun j => ?_, fun i j a h1 h2 e1 e2 => S.own i j a (was i h1) (was j h2) e1 e2⟩
  · have nl : ¬ Lent σ as a := fun ⟨i, j, h1, h2⟩ => by
      have ho := borOk_ow hb i j h1
      cases hs : gt ρ j with
      | un => rw [hs] at ho; cases ho
      | fz d => rw [hs] at ho; cases ho
      | ow b c =>
        obtain ⟨a', e1, ⟨_, ng, _⟩, _⟩ := S.ow hs
        rw [h2] at e1
        have : a = a' := by simpa using e1
        subst this
        rw [ng] at h; cases h
    exact S'.out a u (by rw [callee_G nl]; exact S.out a u h)
  · rcases S'.new a h with z | z | ⟨vs, z⟩
    · exact S.new a z
    · exact .inr (.inl (S.fresh0 z))
    · exact .inr (S.n0 z)
  · by_cases q : ∃ i : Nat, as[i]? = some (AV.bor j)
    · obtain ⟨i, hi⟩ := q
      have ho := borOk_ow hb i j hi
      have hj : j < ρ.length := lt_of_getD ho
      have hil : i < outs.length := by rw [hlen]; exact (List.getElem?_eq_some_iff.mp hi).1
      rw [putOuts_at hb hi hil hj]
      obtain ⟨v, hv⟩ := vat hi
      have hσ := jlt hi hv
      cases hs : ρ.getD j .un with
      | un => trivial
      | fz d => trivial
      | ow b c =>
        cases hs' : outs.getD i .un with
        | un => trivial
        | fz d => trivial
        | ow b' c' =>
          obtain ⟨a, e1, ⟨nf, ng, _⟩, h2, h3⟩ := S.ow hs
          obtain ⟨a', e1', ⟨nf', ng', o', ho', hc'⟩, _⟩ := S'.ow hs'
          have hm : (vs.map some)[i]? = some (some v) := by simp [hv]
          rw [hm] at e1'
          rw [hσ] at e1
          have z1 : v = .ref a := by simpa using e1
          subst z1
          have z2 : a = a' := by simpa using e1'
          subst z2
          exact ⟨a, hσ, ⟨nf', ng, o', ho', hc'⟩, h2, fun z => h3 z⟩
    · rw [putOuts_ne fun i z => q ⟨i, z⟩]
      have s := S.sl j
      cases hs : ρ.getD j .un with
      | un => trivial
      | fz d => rw [hs] at s; obtain ⟨v, e1, rv⟩ := s; exact ⟨v, e1, rv.mono e⟩
      | ow b c =>
        rw [hs] at s
        obtain ⟨a, e1, ⟨nf, ng, o, ho, hc⟩, h2, h3⟩ := s
        have nl : ¬ Lent σ as a := fun ⟨i, p, h1, h2⟩ => by
          have := S.own p j a (borOk_ow hb i p h1) (by rw [hs]; rfl) h2 e1
          subst this
          exact q ⟨i, h1⟩
        exact ⟨a, e1, ⟨fresh a _ _ nf ho hc, ng, o, S'.out a o (by rw [callee_G nl]; exact ho), hc.mono e⟩, h2, h3⟩
end
end DL
set_option Elab.async false
set_option linter.all false
set_option maxRecDepth 100000
set_option maxHeartbeats 1000000
/-! DL6: calls as rules; new objects. -/
namespace DL
open PySem L2 Evl
/-! ### new objects of one's own -/
abbrev NE := Env → XP → (Ct → Env → Prop) → Prop
structure MonoN (de : NE) : Prop where
  go : ∀ {ρ X X' K K'}, (∀ x ρ, X x ρ → X' x ρ) → (∀ r ρ, K r ρ → K' r ρ) → de ρ X K → de ρ X' K'
/-- v is a new object of one's own, in no slot -/
structure NwR (K : PySem.W.Frag) (B : Base) (F : Hp) (ρ : Env) (σ : L2.St) (H : Hp) (v : V) (c : Ct) : Prop where
  ex : ∃ a, v = .ref a ∧ OwR K B F H a c ∧ B.H0 a = none ∧ ∀ i, isOw (ρ.getD i .un) = true → σ[i]? ≠ some (some (.ref a))
def liftN (K : PySem.W.Frag) (W : WX) (de : NE) : TE := fun σ H Q => ∃ B F ρ, St K B F ρ σ H ∧ de ρ (xl K W B F σ) fun c ρ' => ∀ v F' H', Ex F F' → St K B F' ρ' σ H' → NwR K B F' ρ' σ H' v c → Q v H'
structure PN (X : Cx) (W : WX) (e : Expr) (de : NE) : Prop where
  mono : MonoN de
  run : PE X e (liftN X.K W de)
theorem liftN.of {K : PySem.W.Frag} {W : WX} {B : Base} {F0 F : Hp} {ρ : Env} {σ : L2.St} {H : Hp} {de : NE} {k : Ct → Env → Prop} {Q : VK} (m : MonoN de) (e : Ex F0 F) (S : St K B F ρ σ H) (h : de ρ (xl K W B F0 σ) k) (hk : ∀ r ρ1, k r ρ1 → ∀ v F1 H1, Ex F F1 → St K B F1 ρ1 σ H1 → NwR K B F1 ρ1 σ H1 v r → Q v H1) : liftN K W de σ H Q :=
  ⟨B, F, ρ, S, m.go (xl_up e) hk h⟩
section
variable {K : PySem.W.Frag} {B : Base} {F : Hp} {ρ : Env} {σ : L2.St} {H : Hp}
theorem NwR.freeze {v : V} {c : Ct} (S : St K B F ρ σ H) (n : NwR K B F ρ σ H v c) : ∃ F', Ex F F' ∧ St K B F' ρ σ H ∧ Rep K F' v c.d := by
  obtain ⟨a, rfl, ⟨nf, ng, o, ho, hc⟩, h0, no⟩ := n.ex
  obtain ⟨e, S'⟩ := S.freezeAt ho nf (.inl h0) no
  exact ⟨_, e, S', OwR.freeze hc upd_same e⟩
/-- a fresh address becomes one's own -/
theorem St.newOw {p : Addr} {o : HO} {c : Ct} (S : St K B F ρ σ H) (hp : H p = none) (hc : CtR K F p o c) : St K B F ρ σ (upd H p o) ∧ NwR K B F ρ σ (upd H p o) (.ref p) c := by
  obtain ⟨S', fp, gp, h0⟩ := S.keepNew (o := o) hp
  refine ⟨S', ⟨p, rfl, ⟨fp, gp, o, upd_same, hc⟩, h0, fun i hi z => ?_⟩⟩
  cases hs : ρ.getD i .un with
  | un => rw [hs] at hi; cases hi
  | fz d => rw [hs] at hi; cases hi
  | ow b c =>
    obtain ⟨a', e1, ⟨_, _, o', ho', _⟩, _⟩ := S.ow hs
    rw [z] at e1
    have : p = a' := by simpa using e1
    subst this
    rw [hp] at ho'; cases ho'
end
def eFz (de : NE) : DE := fun ρ X K => de ρ X fun c ρ' => K c.d ρ'
section
variable {X : Cx} {W : WX} {a b c e : Expr} {da db : DE} {das : DAs} {dn : NE} {es : List Expr} {pos p : Pos} {dc : DC}
theorem pd_fz (h : PN X W e dn) : PD X W e (eFz dn) :=
  ⟨⟨fun hx hk h' => h.mono.go hx (fun c ρ h => hk _ _ h) h'⟩, PE.imp h.run fun σ H Q ⟨B, F, ρ, S, q⟩ => liftN.of h.mono (Ex.refl _) S q fun c ρ1 h v F1 H1 e1 S1 n => by
    obtain ⟨F', e2, S2, r⟩ := n.freeze S1
    exact h v F' H1 (e1.trans e2) S2 r⟩
/-- displays -/
def nLst (das : DAs) : NE := fun ρ X K => das ρ X fun as ρ' => allD as fun ds => ds.length ≤ 1000000 ∧ K (.lst ds) ρ'
theorem pn_lst (h : PDA X W es das) : PN X W (.List es pos) (nLst das) :=
  ⟨⟨fun hx hk h' => h.mono.go hx (fun as ρ h => allD.mono (fun xs h => ⟨h.1, hk _ _ h.2⟩) h) h'⟩, PE.imp (pe_lst h.run) fun σ H Q ⟨B, F, ρ, S, q⟩ => liftA.of h.mono (Ex.refl _) S q fun as ρ1 h vs F1 H1 e1 S1 r1 => by
    obtain ⟨ds, r, hl, q⟩ := allD.reps r1 h
    refine ⟨by rw [r.length]; exact le_line hl, fun p hp => ?_⟩
    obtain ⟨S2, n⟩ := S1.newOw (o := .lst vs) (c := .lst ds) hp ⟨vs, rfl, r⟩
    exact q _ _ _ e1 S2 n⟩
def nC (c : Ct) : NE := fun ρ _ K => K c ρ
theorem pn_dnewK : PN X W (.Dict [] [] pos) (nC (.dct [])) :=
  ⟨⟨fun hx hk h => hk _ _ h⟩, PE.imp pe_dnewK fun σ H Q ⟨B, F, ρ, S, q⟩ p hp => by
    obtain ⟨S2, n⟩ := S.newOw (o := .dK []) (c := .dct []) hp ⟨[], rfl, .nil⟩
    exact q _ F _ (Ex.refl _) S2 n⟩
theorem pn_dnewT : PN X W (.Dict [] [] pos) (nC (.dctT [])) :=
  ⟨⟨fun hx hk h => hk _ _ h⟩, PE.imp pe_dnewT fun σ H Q ⟨B, F, ρ, S, q⟩ p hp => by
    obtain ⟨S2, n⟩ := S.newOw (o := .dT []) (c := .dctT []) hp ⟨[], rfl, .nil⟩
    exact q _ F _ (Ex.refl _) S2 n⟩

/-- {}, to be a dict with nested keys -/
def tDNewN : TE := fun _ H Q => ∀ p, H p = none → Q (.ref p) (upd H p (ND p []))
theorem pe_dnewN : PE X (.Dict [] [] pos) tDNewN := ⟨fun pins s σ H Q I h =>
  wpAny_Dict_empty ⟨.ref s.heap.objs.size, _, I.laid (a := s.heap.objs.size) (o := ND s.heap.objs.size []) (t' := s.toks) (fun _ _ q => Heap.get?_push_of_some _ q) (Nat.le_refl _) (nd_obj (nd_empty s.heap I.big)), rfl, h _ (I.hok.fresh (Nat.le_refl _))⟩⟩
theorem pn_dnewN : PN X W (.Dict [] [] pos) (nC (.dctN [])) :=
  ⟨⟨fun hx hk h => hk _ _ h⟩, PE.imp pe_dnewN fun σ H Q ⟨B, F, ρ, S, q⟩ p hp => by
    obtain ⟨S2, n⟩ := S.newOw (o := ND p []) (c := .dctN []) hp ⟨[], rfl, .nil⟩
    exact q _ F _ (Ex.refl _) S2 n⟩
/-! ### calls of defs -/
theorem putOuts_was {as : List AV} : ∀ {outs : List Sl} {ρ : Env} (j : Nat), isOw ((putOuts as outs ρ).getD j .un) = true → isOw (gt ρ j) = true := by
  induction as with
  | nil => intro outs ρ j h; exact h
  | cons a as ih =>
    intro outs ρ j h
    cases outs with
    | nil => cases a <;> exact h
    | cons o os =>
      cases a with
      | d x => exact ih j h
      | bor i =>
        have h2 := ih (outs := os) (ρ := ρ.set i (lend (gt ρ i) o)) j h
        by_cases q : i = j
        · subst q
          by_cases hl : i < ρ.length
          · have h3 : isOw (lend (gt ρ i) o) = true := by
              have := h2
              unfold gt at this
              rw [getD_set_self hl] at this; exact this
            cases hs : gt ρ i with
            | un => rw [hs] at h3; cases h3
            | fz d => rw [hs] at h3; cases h3
            | ow b c => rfl
          · rw [List.set_eq_of_length_le (by omega)] at h2; exact h2
        · unfold gt at h2 ⊢
          rw [getD_set_ne q] at h2; exact h2
/-- a result, to the caller -/
inductive RzR (K : PySem.W.Frag) (B : Base) (F : Hp) (ρ : Env) (σ : L2.St) (H : Hp) (v : V) : Rv → Prop
  | d {x : D} : Rep K F v x → RzR K B F ρ σ H v (.d x)
  | nw {c : Ct} : NwR K B F ρ σ H v c → RzR K B F ρ σ H v (.nw c)
/-- the call, by values: from the callee's promise -/
theorem call_data {K : PySem.W.Frag} {B : Base} {F : Hp} {ρ : Env} {σ : L2.St} {H : Hp} {as : List AV} {vs : List V} {Q : VK} {XX : XP} {KK : Rv → Env → Prop} {n : Nat} {E : XK} (hn : as.length = n) (S : St K B F ρ σ H) (r : AvR K F σ vs as) (hb : borOk ρ as = true) (m : MonoC dc)
    (h : dc (argsOf ρ as) (fun x outs => XX x (putOuts as outs ρ)) fun r outs => KK r (putOuts as outs ρ))
    (hX : ∀ x ρ', XX x ρ' → ∀ F' H' dd v, Ex F F' → St K B F' ρ' σ H' → H' dd = some (.xd [(x.f, v)]) → Rep K F' v x.d → E (.ref x.C) (some dd) H')
    (hK : ∀ r ρ', KK r ρ' → ∀ v F' H', Ex F F' → St K B F' ρ' σ H' → RzR K B F' ρ' σ H' v r → Q v H') : spD K n dc vs H Q E := by
  refine ⟨by rw [r.length, hn], callee F H σ as vs, F, argsOf ρ as, S.enter r hb, m.go (fun x o h F' H' dd v e S' h1 h2 => hX x _ h F' H' dd v e (S.leave r hb e S') h1 h2) (fun r' o h v F' H' e S' h1 => hK r' _ h v F' H' e (S.leave r hb e S') ?_) h⟩
  cases r' with
  | d x => exact .d h1
  | nw c =>
    obtain ⟨a, rfl, ⟨nf, ng, ob, ho, hc⟩, h0⟩ := h1
    have h0 : H a = none := h0
    have hb0 : B.H0 a = none := by
      cases q : B.H0 a with
      | none => rfl
      | some u => exact absurd h0 (S.there a (by rw [q]; simp))
    refine .nw ⟨a, rfl, ⟨nf, fresh_back S.out h0, ob, ho, hc⟩, hb0, fun i hi z => ?_⟩
    have hw := putOuts_was (as := as) i hi
    cases hs : gt ρ i with
    | un => rw [hs] at hw; cases hw
    | fz d => rw [hs] at hw; cases hw
    | ow b c =>
      obtain ⟨a', e1, ⟨_, _, o', ho', _⟩, _⟩ := S.ow hs
      rw [z] at e1
      have : a = a' := by simpa using e1
      subst this
      rw [h0] at ho'; cases ho'
theorem NwR.weaken {K : PySem.W.Frag} {B B' : Base} {F : Hp} {ρ : Env} {σ : L2.St} {H : Hp} {v : V} {c : Ct} (l : B.Le B') (n : NwR K B' F ρ σ H v c) : NwR K B F ρ σ H v c := by
  obtain ⟨a, rfl, o, h0, no⟩ := n.ex
  exact ⟨a, rfl, o.weaken l, by rw [← l.h]; exact h0, no⟩
theorem RzR.weaken {K : PySem.W.Frag} {B B' : Base} {F : Hp} {ρ : Env} {σ : L2.St} {H : Hp} {v : V} {r : Rv} (l : B.Le B') (h : RzR K B' F ρ σ H v r) : RzR K B F ρ σ H v r := by
  cases h with
  | d h => exact .d h
  | nw h => exact .nw (h.weaken l)
theorem RzR.toD {K : PySem.W.Frag} {B : Base} {F : Hp} {ρ : Env} {σ : L2.St} {H : Hp} {v : V} {r : Rv} (S : St K B F ρ σ H) (h : RzR K B F ρ σ H v r) : ∃ F', Ex F F' ∧ St K B F' ρ σ H ∧ Rep K F' v r.toD := by
  cases h with
  | d h => exact ⟨F, Ex.refl _, S, h⟩
  | nw h => exact h.freeze S
theorem mono_eCall {n : Nat} (m : MonoC dc) (ma : MonoA das) : MonoE (eCall n dc das) := ⟨fun hx hk h => ma.go hx (fun as ρ h => ⟨h.1, h.2.1, m.go (fun x o h => hx _ _ h) (fun r o h => hk _ _ h) h.2.2⟩) h⟩
/-- the caller's reading of a call -/
theorem callT {n : Nat} {E : L2.St → XK} (hE : ∀ σ cls d H, W cls d σ H → E σ cls d H) (m : MonoC dc) (ma : MonoA das) {σ : L2.St} {H : Hp} {Q : VK} (h : liftE X.K W (eCall n dc das) σ H Q) : liftA X.K W das σ H fun vs H1 => spD X.K n dc vs H1 Q (E σ) := by
  obtain ⟨B, Fz, ρ, S, h⟩ := h
  refine liftA.of ma (Ex.refl _) S h fun as ρ1 h vs F1 H1 e1 S1 r1 => ?_
  obtain ⟨hlen, hbo, h⟩ := h
  refine call_data (XX := xl X.K W B Fz σ) (KK := fun r ρ' => ∀ v F' H', Ex Fz F' → St X.K B F' ρ' σ H' → Rep X.K F' v r.toD → Q v H') hlen S1 r1 hbo m h (fun x ρ' h F' H' dd v e S' h1 h2 => hE _ _ _ _ (h F' H' dd v (e1.trans e) S' h1 h2)) fun r ρ' h v F' H' e S' h1 => ?_
  obtain ⟨F2, e2, S2, r2⟩ := h1.toD S'
  exact h v F2 H' ((e1.trans e).trans e2) S2 r2
theorem pd_call {k : Nat} {f : Addr} {fd : FuncData} {ps : List Str} {x : Str} {n : Nat} (m : MonoC dc) (F : FnOk X.prog X.w X.K X.mg X.base (L2.CX X.prog X.w) k f fd ps (spD X.K n dc)) (hr : Room k X.A) (hg : Gl X x) (hm : X.mg x = some (.ref f)) (hk : PySem.W.keepIn X.K (.ref f) = true) (hb : Binds X.K fd ps [])
    (tk : Takes X W) (ha : PDA X W (e :: es) das) (hdb : (x == ("__debug__" : Str)) = false := by decide) (he : starEach (e :: es) X.env = (false, eval e X.env) :: starEach es X.env := by rfl) (hpl : (backTo pos (starEach es X.env)).any (·.1) = false := by rfl) :
    PD X W (.Call (.Name x p) (e :: es) [] pos) (eCall n dc das) := by
  refine ⟨mono_eCall m ha.mono, PE.imp (pe_callSD (E := WE W) F hr hg hm hk hb .nil (fun σ => passAt tk σ) ha.run hdb he hpl) fun σ H Q h => ?_⟩
  show liftA _ _ _ _ _ fun vs H1 => spD _ _ _ (vs ++ []) _ _ _
  have := callT (E := WE W) (fun σ cls d H h => h) m ha.mono h
  simpa using this
/-- .. whose result is one's own -/
def nCall (n : Nat) (dc : DC) (das : DAs) : NE := fun ρ X K => das ρ X fun as ρ1 => as.length = n ∧ borOk ρ1 as = true ∧ dc (argsOf ρ1 as) (fun x outs => X x (putOuts as outs ρ1)) fun r outs => match r with
  | .d _ => False
  | .nw c => K c (putOuts as outs ρ1)
theorem pn_call {k : Nat} {f : Addr} {fd : FuncData} {ps : List Str} {x : Str} {n : Nat} (m : MonoC dc) (F : FnOk X.prog X.w X.K X.mg X.base (L2.CX X.prog X.w) k f fd ps (spD X.K n dc)) (hr : Room k X.A) (hg : Gl X x) (hm : X.mg x = some (.ref f)) (hk : PySem.W.keepIn X.K (.ref f) = true) (hb : Binds X.K fd ps [])
    (tk : Takes X W) (ha : PDA X W (e :: es) das) (hdb : (x == ("__debug__" : Str)) = false := by decide) (he : starEach (e :: es) X.env = (false, eval e X.env) :: starEach es X.env := by rfl) (hpl : (backTo pos (starEach es X.env)).any (·.1) = false := by rfl) :
    PN X W (.Call (.Name x p) (e :: es) [] pos) (nCall n dc das) := by
  refine ⟨⟨fun hx hk h => ha.mono.go hx (fun as ρ h => ⟨h.1, h.2.1, m.go (fun x o h => hx _ _ h) (fun r o h => by
    cases r with
    | d x => exact h.elim
    | nw c => exact hk _ _ h) h.2.2⟩) h⟩, PE.imp (pe_callSD (E := WE W) F hr hg hm hk hb .nil (fun σ => passAt tk σ) ha.run hdb he hpl) fun σ H Q ⟨B, Fz, ρ, S, h⟩ => ?_⟩
  refine liftA.of ha.mono (Ex.refl _) S h fun as ρ1 h vs F1 H1 e1 S1 r1 => ?_
  obtain ⟨hlen, hbo, h⟩ := h
  show spD _ _ _ (vs ++ []) _ _ _
  rw [List.append_nil]
  refine call_data (XX := xl X.K W B Fz σ) (KK := fun r ρ' => match r with
    | .d _ => False
    | .nw c => ∀ v F' H', Ex Fz F' → St X.K B F' ρ' σ H' → NwR X.K B F' ρ' σ H' v c → Q v H') hlen S1 r1 hbo m h (fun x ρ' h F' H' dd v e S' h1 h2 => h F' H' dd v (e1.trans e) S' h1 h2) fun r ρ' h v F' H' e S' h1 => ?_
  cases h1 with
  | d _ => exact h.elim
  | nw n => exact h v F' H' (e1.trans e) S' n
/-- no arguments -/
theorem pd_call0 {k : Nat} {f : Addr} {fd : FuncData} {ps : List Str} {x : Str} (m : MonoC dc) (F : FnOk X.prog X.w X.K X.mg X.base (L2.CX X.prog X.w) k f fd ps (spD X.K 0 dc)) (hr : Room k X.A) (hg : Gl X x) (hm : X.mg x = some (.ref f)) (hk : PySem.W.keepIn X.K (.ref f) = true) (hb : Binds X.K fd ps [])
    {E : XK} (hx : Passes (L2.CX X.prog X.w) X E) (hdb : (x == ("__debug__" : Str)) = false := by decide) : PD X (fun cls d _ H => E cls d H) (.Call (.Name x p) [] [] pos) (eCall 0 dc aNil) := by
  refine ⟨mono_eCall m mono_aNil, PE.imp (pe_call0 F hr hg hm hk hb .nil hx hdb) fun σ H Q h => ?_⟩
  obtain ⟨B, Fz, ρ, S, h⟩ := h
  obtain ⟨hlen, hbo, h⟩ := h
  show spD _ _ _ ([] ++ []) _ _ _
  refine call_data (as := []) (XX := xl X.K (fun cls d _ H => E cls d H) B Fz σ) (KK := fun r ρ' => ∀ v F' H', Ex Fz F' → St X.K B F' ρ' σ H' → Rep X.K F' v r.toD → Q v H') rfl S trivial rfl m h (fun x ρ' h F' H' dd v e S' h1 h2 => h F' H' dd v e S' h1 h2) fun r ρ' h v F' H' e S' h1 => ?_
  obtain ⟨F2, e2, S2, r2⟩ := h1.toD S'
  exact h v F2 H' (e.trans e2) S2 r2
end
end DL
set_option Elab.async false
set_option linter.all false
set_option maxRecDepth 100000
set_option maxHeartbeats 1000000
/-! DL7: statements, targets, loops, a def's body. -/
namespace DL
open PySem L2 Evl
structure DP where
  nx : Env → Prop
  rt : Rv → Env → Prop
  bk : Env → Prop
  ct : Env → Prop
  ex : XP
abbrev DS := Env → DP → Prop
structure DP.Le (P P' : DP) : Prop where
  nx : ∀ ρ, P.nx ρ → P'.nx ρ
  rt : ∀ r ρ, P.rt r ρ → P'.rt r ρ
  bk : ∀ ρ, P.bk ρ → P'.bk ρ
  ct : ∀ ρ, P.ct ρ → P'.ct ρ
  ex : ∀ x ρ, P.ex x ρ → P'.ex x ρ
theorem DP.Le.refl (P : DP) : P.Le P := ⟨fun _ h => h, fun _ _ h => h, fun _ h => h, fun _ h => h, fun _ _ h => h⟩
structure MonoS (ds : DS) : Prop where
  go : ∀ {ρ P P'}, DP.Le P P' → ds ρ P → ds ρ P'
def postL (K : PySem.W.Frag) (W : WX) (B : Base) (F : Hp) (D : Ends) : DP where
  nx := fun ρ' => ∀ F' σ' H', Ex F F' → St K B F' ρ' σ' H' → D.nx σ' H'
  rt := fun r ρ' => ∀ v F' σ' H', Ex F F' → St K B F' ρ' σ' H' → RzR K B F' ρ' σ' H' v r → D.rt v H'
  bk := fun ρ' => ∀ F' σ' H', Ex F F' → St K B F' ρ' σ' H' → D.bk σ' H'
  ct := fun ρ' => ∀ F' σ' H', Ex F F' → St K B F' ρ' σ' H' → D.ct σ' H'
  ex := fun x ρ' => ∀ F' σ' H' dd v, Ex F F' → St K B F' ρ' σ' H' → H' dd = some (.xd [(x.f, v)]) → Rep K F' v x.d → W (.ref x.C) (some dd) σ' H'
def liftS (K : PySem.W.Frag) (W : WX) (ds : DS) : TS := fun D σ H => ∃ B F ρ, St K B F ρ σ H ∧ ds ρ (postL K W B F D)
section
variable {K : PySem.W.Frag} {W : WX} {B : Base} {F0 F : Hp} {ρ : Env} {σ : L2.St} {H : Hp} {En : Ends}
theorem postL_up (e : Ex F0 F) : (postL K W B F0 En).Le (postL K W B F En) :=
  ⟨fun ρ h F' σ' H' e' => h F' σ' H' (e.trans e'), fun r ρ h v F' σ' H' e' => h v F' σ' H' (e.trans e'), fun ρ h F' σ' H' e' => h F' σ' H' (e.trans e'), fun ρ h F' σ' H' e' => h F' σ' H' (e.trans e'),
    fun x ρ h F' σ' H' dd v e' => h F' σ' H' dd v (e.trans e')⟩
theorem DP.Le.trans {P Q R : DP} (a : P.Le Q) (b : Q.Le R) : P.Le R := ⟨fun ρ h => b.nx ρ (a.nx ρ h), fun r ρ h => b.rt r ρ (a.rt r ρ h), fun ρ h => b.bk ρ (a.bk ρ h), fun ρ h => b.ct ρ (a.ct ρ h), fun x ρ h => b.ex x ρ (a.ex x ρ h)⟩
theorem liftS.of {ds : DS} {P : DP} (m : MonoS ds) (S : St K B F ρ σ H) (h : ds ρ P) (le : P.Le (postL K W B F En)) : liftS K W ds En σ H := ⟨B, F, ρ, S, m.go le h⟩
/-- a statement's wish of exceptions is its expressions' -/
theorem ex_xl (x : Exn) (ρ' : Env) (h : (postL K W B F En).ex x ρ') : xl K W B F σ x ρ' := fun F' H' dd v e S h1 r => h F' σ H' dd v e S h1 r
theorem liftE.ofS {de : DE} {k : D → Env → Prop} {Q : VK} (m : MonoE de) (S : St K B F ρ σ H) (h : de ρ (postL K W B F En).ex k) (hk : ∀ r ρ1, k r ρ1 → ∀ v F1 H1, Ex F F1 → St K B F1 ρ1 σ H1 → Rep K F1 v r → Q v H1) : liftE K W de σ H Q :=
  ⟨B, F, ρ, S, m.go ex_xl hk h⟩
theorem liftT.ofS {de : DT} {k : Bool → Env → Prop} {Q : Bool → Hp → Prop} (m : MonoT de) (S : St K B F ρ σ H) (h : de ρ (postL K W B F En).ex k) (hk : ∀ r ρ1, k r ρ1 → ∀ F1 H1, Ex F F1 → St K B F1 ρ1 σ H1 → Q r H1) : liftT K W de σ H Q :=
  ⟨B, F, ρ, S, m.go ex_xl hk h⟩
theorem liftN.ofS {de : NE} {k : Ct → Env → Prop} {Q : VK} (m : MonoN de) (S : St K B F ρ σ H) (h : de ρ (postL K W B F En).ex k) (hk : ∀ r ρ1, k r ρ1 → ∀ v F1 H1, Ex F F1 → St K B F1 ρ1 σ H1 → NwR K B F1 ρ1 σ H1 v r → Q v H1) : liftN K W de σ H Q :=
  ⟨B, F, ρ, S, m.go ex_xl hk h⟩
end
structure PDS (X : Cx) (W : WX) (st : Stmt) (ds : DS) : Prop where
  mono : MonoS ds
  run : PS X st (liftS X.K W ds)
structure PDSs (X : Cx) (W : WX) (st : List Stmt) (ds : DS) : Prop where
  mono : MonoS ds
  run : PSs X st (liftS X.K W ds)
section
variable {X : Cx} {W : WX} {a b c e : Expr} {da db : DE} {das : DAs} {dn : NE} {ta : DT} {st : Stmt} {rest : List Stmt} {s t : DS} {pos p : Pos}
def dNext : DS := fun ρ P => P.nx ρ
def dSeq (s t : DS) : DS := fun ρ P => s ρ { P with nx := fun ρ' => t ρ' P }
theorem mono_dSeq (m1 : MonoS s) (m2 : MonoS t) : MonoS (dSeq s t) := ⟨fun {ρ P P'} le h => m1.go (P := { P with nx := fun ρ' => t ρ' P }) (P' := { P' with nx := fun ρ' => t ρ' P' }) ⟨fun ρ h => m2.go le h, le.rt, le.bk, le.ct, le.ex⟩ h⟩
theorem pdss_nil : PDSs X W [] dNext := ⟨⟨fun le h => le.nx _ h⟩, PSs.imp pss_nil fun D σ H ⟨B, F, ρ, S, h⟩ => h F σ H (Ex.refl _) S⟩
theorem pdss_one (h : PDS X W st s) : PDSs X W [st] s := ⟨h.mono, pss_one h.run⟩
theorem pdss_cons (h1 : PDS X W st s) (h2 : PDSs X W rest t) : PDSs X W (st :: rest) (dSeq s t) :=
  ⟨mono_dSeq h1.mono h2.mono, PSs.imp (pss_cons h1.run h2.run) fun D σ H ⟨B, F, ρ, S, h⟩ => ⟨B, F, ρ, S, h1.mono.go (P := { postL X.K W B F D with nx := fun ρ' => t ρ' (postL X.K W B F D) }) ⟨fun ρ' h F' σ' H' e S' => ⟨B, F', ρ', S', h2.mono.go (postL_up e) h⟩, fun r ρ' h => h, fun ρ' h => h, fun ρ' h => h, fun x ρ' h => h⟩ h⟩⟩
theorem pds_pass : PDS X W (.Pass pos) dNext := ⟨⟨fun le h => le.nx _ h⟩, PS.imp ps_pass fun D σ H ⟨B, F, ρ, S, h⟩ => h F σ H (Ex.refl _) S⟩
def dBreak : DS := fun ρ P => P.bk ρ
def dCont : DS := fun ρ P => P.ct ρ
theorem pds_break : PDS X W (.Break pos) dBreak := ⟨⟨fun le h => le.bk _ h⟩, PS.imp ps_break fun D σ H ⟨B, F, ρ, S, h⟩ => h F σ H (Ex.refl _) S⟩
theorem pds_continue : PDS X W (.Continue pos) dCont := ⟨⟨fun le h => le.ct _ h⟩, PS.imp ps_continue fun D σ H ⟨B, F, ρ, S, h⟩ => h F σ H (Ex.refl _) S⟩
def dNever : DS := fun _ _ => False
theorem pds_never : PDS X W st dNever := ⟨⟨fun _ h => h⟩, PS.imp ps_never fun D σ H ⟨B, F, ρ, S, h⟩ => h⟩
def dRet (de : DE) : DS := fun ρ P => de ρ P.ex fun d ρ' => P.rt (.d d) ρ'
def dRetN (de : NE) : DS := fun ρ P => de ρ P.ex fun c ρ' => P.rt (.nw c) ρ'
theorem pds_ret (h : PD X W e da) : PDS X W (.Return (some e) pos) (dRet da) :=
  ⟨⟨fun le q => h.mono.go le.ex (fun d ρ q => le.rt _ _ q) q⟩, PS.imp (ps_ret h.run) fun D σ H ⟨B, F, ρ, S, q⟩ => liftE.ofS h.mono S q fun d ρ1 q v F1 H1 e1 S1 r1 => q v F1 σ H1 e1 S1 (.d r1)⟩
theorem pds_retN (h : PN X W e dn) : PDS X W (.Return (some e) pos) (dRetN dn) :=
  ⟨⟨fun le q => h.mono.go le.ex (fun d ρ q => le.rt _ _ q) q⟩, PS.imp (ps_ret h.run) fun D σ H ⟨B, F, ρ, S, q⟩ => liftN.ofS h.mono S q fun d ρ1 q v F1 H1 e1 S1 r1 => q v F1 σ H1 e1 S1 (.nw r1)⟩
def dRet0 : DS := fun ρ P => P.rt (.d .none) ρ
theorem pds_ret0 : PDS X W (.Return none pos) dRet0 := ⟨⟨fun le h => le.rt _ _ h⟩, PS.imp ps_retN fun D σ H ⟨B, F, ρ, S, h⟩ => h .non F σ H (Ex.refl _) S (.d .none)⟩
def dDrop (de : DE) : DS := fun ρ P => de ρ P.ex fun _ ρ' => P.nx ρ'
theorem pds_expr (h : PD X W e da) (hs : swapsWith e none pos.line X.env = pure false := by rfl) : PDS X W (.Expr e pos) (dDrop da) :=
  ⟨⟨fun le q => h.mono.go le.ex (fun d ρ q => le.nx _ q) q⟩, PS.imp (ps_expr h.run hs) fun D σ H ⟨B, F, ρ, S, q⟩ => liftE.ofS h.mono S q fun d ρ1 q v F1 H1 e1 S1 r1 => q F1 σ H1 e1 S1⟩
def dIf (c : DT) (s t : DS) : DS := fun ρ P => c ρ P.ex fun b ρ1 => if b = true then s ρ1 P else t ρ1 P
theorem pds_if {ss tt : List Stmt} (hc : PDT X W c ta) (h1 : PDSs X W ss s) (h2 : PDSs X W tt t) : PDS X W (.If c ss tt pos) (dIf ta s t) :=
  ⟨⟨fun le q => hc.mono.go le.ex (fun b ρ q => by
    cases b with
    | true => exact h1.mono.go le q
    | false => exact h2.mono.go le q) q⟩, PS.imp (ps_if hc.run h1.run h2.run) fun D σ H ⟨B, F, ρ, S, q⟩ => liftT.ofS hc.mono S q fun b ρ1 q F1 H1 e1 S1 => by
    cases b with
    | true => exact liftS.of h1.mono S1 q (postL_up e1)
    | false => exact liftS.of h2.mono S1 q (postL_up e1)⟩

/-! ### targets -/
abbrev DG := D → Env → (Env → Prop) → Prop
structure MonoG (g : DG) : Prop where
  go : ∀ {d ρ k k'}, (∀ ρ, k ρ → k' ρ) → g d ρ k → g d ρ k'
structure PDG (X : Cx) (tg : Expr) (g : TG) (dg : DG) (is : List Nat) : Prop where
  mono : MonoG dg
  pg : PG X tg g
  run : ∀ {B F ρ σ H v d k Q}, St X.K B F ρ σ H → Rep X.K F v d → dg d ρ k → (∀ ρ', k ρ' → ∀ F' σ' H', Ex F F' → σ'.length = σ.length → (∀ j, j ∉ is → σ'[j]? = σ[j]?) → St X.K B F' ρ' σ' H' → Q σ' H') → g v σ H Q
def dgName (i : Nat) : DG := fun d ρ k => k (ρ.set i (.fz d))
theorem St.set_fz' {K : PySem.W.Frag} {B : Base} {F : Hp} {ρ : Env} {σ : L2.St} {H : Hp} (S : St K B F ρ σ H) {i : Nat} {v : V} {d : D} (r : Rep K F v d) : St K B F (ρ.set i (.fz d)) (σ.set i (some v)) H := by
  by_cases h : i < σ.length
  · exact S.set_fz h (by rw [← S.len]; exact h) r
  · rw [List.set_eq_of_length_le (by rw [← S.len]; omega), List.set_eq_of_length_le (by omega)]; exact S
theorem pdg_name (i : Nat) {x : Str} (hN : X.N.Nodup) (hi : X.N[i]? = some x) (hx : Loc X.env.scope x) (hf : X.fn x = true ∨ X.env.scope.names.lookup x = some .local := by first | exact .inl rfl | exact .inr rfl | assumption) : PDG X (.Name x pos) (gName i) (dgName i) [i] :=
  ⟨⟨fun hk h => hk _ h⟩, pg_name hN hi hx hf, fun {B F ρ σ H v d k Q} S r h hq => hq _ h F _ H (Ex.refl _) (by simp) (fun j hj => List.getElem?_set_ne (by intro z; exact hj (by simp [z]))) (S.set_fz' r)⟩
/-- several targets, one after another -/
abbrev DGs := List D → Env → (Env → Prop) → Prop
structure MonoGs (g : DGs) : Prop where
  go : ∀ {d ρ k k'}, (∀ ρ, k ρ → k' ρ) → g d ρ k → g d ρ k'
structure PDGs (X : Cx) (tgs : List Expr) (g : TGs) (dg : DGs) (is : List Nat) : Prop where
  mono : MonoGs dg
  pg : PGs X tgs g
  run : ∀ {B F ρ σ H vs ds k Q}, St X.K B F ρ σ H → Reps X.K F vs ds → dg ds ρ k → (∀ ρ', k ρ' → ∀ F' σ' H', Ex F F' → σ'.length = σ.length → (∀ j, j ∉ is → σ'[j]? = σ[j]?) → St X.K B F' ρ' σ' H' → Q σ' H') → g vs σ H Q
def dgNil : DGs := fun ds ρ k => ds = [] ∧ k ρ
def dgCons (g : DG) (gs : DGs) : DGs := fun ds ρ k => match ds with
  | d :: ds => g d ρ fun ρ' => gs ds ρ' k
  | [] => False
theorem pdgs_nil : PDGs X [] gNil dgNil [] := ⟨⟨fun hk h => ⟨h.1, hk _ h.2⟩⟩, pgs_nil, fun {B F ρ σ H vs ds k Q} S r h hq => by
  obtain ⟨rfl, h⟩ := h
  cases r
  exact ⟨rfl, hq _ h F σ H (Ex.refl _) rfl (fun _ _ => rfl) S⟩⟩
theorem pdgs_cons {tgs : List Expr} {g : TG} {gs : TGs} {dg : DG} {dgs : DGs} {i1 i2 : List Nat} (h1 : PDG X e g dg i1) (h2 : PDGs X tgs gs dgs i2) (hs : (assignEach (e :: tgs) X.env).map (·.2) = assign e X.env :: (assignEach tgs X.env).map (·.2) := by rfl) : PDGs X (e :: tgs) (gCons g gs) (dgCons dg dgs) (i1 ++ i2) :=
  ⟨⟨fun {d ρ k k'} hk h => by
    cases d with
    | nil => exact h.elim
    | cons x xs => exact h1.mono.go (fun ρ h => h2.mono.go hk h) h⟩, pgs_cons h1.pg h2.pg hs, fun {B F ρ σ H vs ds k Q} S r h hq => by
    cases r with
    | nil => exact h.elim
    | cons r t => exact ⟨_, _, rfl, h1.run S r h fun ρ' h F' σ' H' e1 l1 o1 S' => h2.run S' (t.mono e1) h fun ρ2 h F2 σ2 H2 e2 l2 o2 S2 => hq _ h F2 σ2 H2 (e1.trans e2) (l2.trans l1) (fun j hj => (o2 j fun z => hj (by simp [z])).trans (o1 j fun z => hj (by simp [z]))) S2⟩⟩
def dgTup (n : Nat) (gs : DGs) : DG := fun d ρ k => match d with
  | .tuple xs => xs.length = n ∧ gs xs ρ k
  | _ => False
theorem pdg_tup {tgs : List Expr} {k : Nat} {gs : TGs} {dgs : DGs} {n : Nat} {is : List Nat} (hc : X.calm = true) (h : PDGs X tgs gs dgs is) (hn : (assignEach tgs X.env).length = n := by rfl) (hst : (assignEach tgs X.env).findIdx? (·.1) = none := by rfl) : PDG X (.Tuple tgs k pos) (gTup X.K n gs) (dgTup n dgs) is :=
  ⟨⟨fun {d ρ k k'} hk q => by
    cases d <;> try exact q.elim
    exact ⟨q.1, h.mono.go hk q.2⟩⟩, pg_tup hc h.pg hn hst, fun {B F ρ σ H v d k Q} S r q hq => by
    cases d <;> try exact q.elim
    obtain ⟨p, vs, rfl, e1, r⟩ := r.tuple_inv
    exact ⟨p, vs, rfl, xl_t S.ex e1, by rw [r.length]; exact q.1, h.run S r q.2 hq⟩⟩
def dAsg (de : DE) (g : DG) : DS := fun ρ P => de ρ P.ex fun d ρ1 => g d ρ1 fun ρ2 => P.nx ρ2
theorem mono_dAsg {g : DG} (m : MonoE da) (mg : MonoG g) : MonoS (dAsg da g) := ⟨fun le q => m.go le.ex (fun d ρ q => mg.go (fun ρ q => le.nx _ q) q) q⟩
theorem pds_asg {tg : Expr} {g : TG} {dg : DG} {is : List Nat} (h : PD X W e da) (hg : PDG X tg g dg is) (hs : swapsWithSole [tg] e pos.line X.env = pure false := by rfl) (hw : swappedStores [tg] e X.env = pure none := by rfl)
    (h1 : (assignEach [tg] X.env).map (·.2) = [assign tg X.env] := by rfl) : PDS X W (.Assign [tg] e pos) (dAsg da dg) :=
  ⟨mono_dAsg h.mono hg.mono, PS.imp (ps_asg h.run hg.pg hs hw h1) fun D σ H ⟨B, F, ρ, S, q⟩ => liftE.ofS h.mono S q fun d ρ1 q v F1 H1 e1 S1 r1 => hg.run S1 r1 q fun ρ2 q F2 σ2 H2 e2 _ _ S2 => q F2 σ2 H2 (e1.trans e2) S2⟩
theorem pds_set {i : Nat} {x : Str} {pos' : Pos} (hN : X.N.Nodup) (hi : X.N[i]? = some x) (hx : Loc X.env.scope x) (h : PD X W e da) (hs : swapsWith e (some (.Name x pos')) pos.line X.env = pure false := by rfl) (hf : X.fn x = true ∨ X.env.scope.names.lookup x = some .local := by first | exact .inl rfl | exact .inr rfl | assumption) :
    PDS X W (.Assign [.Name x pos'] e pos) (dAsg da (dgName i)) :=
  ⟨mono_dAsg h.mono ⟨fun hk h => hk _ h⟩, PS.imp (ps_set hN hi hx h.run hs hf) fun D σ H ⟨B, F, ρ, S, q⟩ => liftE.ofS h.mono S q fun d ρ1 q v F1 H1 e1 S1 r1 => q F1 _ H1 e1 (S1.set_fz' r1)⟩
/-- a new object into a slot: one's own from now on -/
def dOwn (de : NE) (i : Nat) : DS := fun ρ P => de ρ P.ex fun c ρ1 => P.nx (ρ1.set i (.ow false c))
theorem St.set_ow' {K : PySem.W.Frag} {B : Base} {F : Hp} {ρ : Env} {σ : L2.St} {H : Hp} (S : St K B F ρ σ H) {i : Nat} {v : V} {c : Ct} (n : NwR K B F ρ σ H v c) : St K B F (ρ.set i (.ow false c)) (σ.set i (some v)) H := by
  obtain ⟨a, rfl, o, h0, no⟩ := n.ex
  by_cases h : i < σ.length
  · exact S.set_ow h (by rw [← S.len]; exact h) o h0 fun j _ hj => no j hj
  · rw [List.set_eq_of_length_le (by rw [← S.len]; omega), List.set_eq_of_length_le (by omega)]; exact S
theorem pds_own {i : Nat} {x : Str} {pos' : Pos} (hN : X.N.Nodup) (hi : X.N[i]? = some x) (hx : Loc X.env.scope x) (h : PN X W e dn) (hs : swapsWith e (some (.Name x pos')) pos.line X.env = pure false := by rfl) (hf : X.fn x = true ∨ X.env.scope.names.lookup x = some .local := by first | exact .inl rfl | exact .inr rfl | assumption) :
    PDS X W (.Assign [.Name x pos'] e pos) (dOwn dn i) :=
  ⟨⟨fun le q => h.mono.go le.ex (fun c ρ q => le.nx _ q) q⟩, PS.imp (ps_set hN hi hx h.run hs hf) fun D σ H ⟨B, F, ρ, S, q⟩ => liftN.ofS h.mono S q fun d ρ1 q v F1 H1 e1 S1 r1 => q F1 _ H1 e1 (S1.set_ow' r1)⟩
/-- x op= e on ints -/
def dAug (i : Nat) (f : DOp) (de : DE) : DS := fun ρ P => ofFz (gt ρ i) fun x => de ρ P.ex fun y ρ1 => f x y fun z => P.nx (ρ1.set i (.fz z))
theorem pds_aug {i : Nat} {x : Str} {op : Operator} {r : R2} {f : DOp} {pos' : Pos} (hN : X.N.Nodup) (hi : X.N[i]? = some x) (hx : Loc X.env.scope x) (ho : OpR X (inplaceOp op) r) (hr : ROp X.K r f) (h : PD X W e da) (hf : X.fn x = true ∨ X.env.scope.names.lookup x = some .local := by first | exact .inl rfl | exact .inr rfl | assumption) :
    PDS X W (.AugAssign (.Name x pos') op e pos) (dAug i f da) :=
  ⟨⟨fun le q => by
    obtain ⟨x, e1, q⟩ := ofFz.eq q
    show ofFz _ _
    rw [e1]
    exact h.mono.go le.ex (fun c ρ q => hr.mono.go (fun z q => le.nx _ q) q) q⟩, PS.imp (ps_aug (ti := r) hN hi hx h.run ho hf) fun D σ H ⟨B, F, ρ, S, q⟩ => by
    obtain ⟨x, e1, q⟩ := ofFz.eq q
    obtain ⟨v, ev, rv⟩ := S.fz e1
    exact ⟨v, ev, liftE.ofS h.mono S q fun d ρ1 q w F1 H1 e1 S1 r1 => hr.run S1 (rv.mono e1) r1 q fun z q u F' H' e2 S2 r2 => q F' _ H' (e1.trans e2) (S2.set_fz' r2)⟩⟩

/-! ### while -/
def whileN (c : DT) (b : DS) : Nat → Env → DP → Prop
  | 0, _, _ => False
  | n + 1, ρ, P => c ρ P.ex fun t ρ1 => if t = true then b ρ1 { P with nx := fun ρ' => whileN c b n ρ' P, ct := fun ρ' => whileN c b n ρ' P, bk := P.nx } else P.nx ρ1
def dWhile (c : DT) (b : DS) : DS := fun ρ P => ∃ n, whileN c b n ρ P
theorem mono_whileN (mc : MonoT ta) (mb : MonoS s) : ∀ n, MonoS (whileN ta s n)
  | 0 => ⟨fun _ h => h⟩
  | n + 1 => ⟨fun {ρ P P'} le h => mc.go le.ex (fun t ρ h => by
    cases t with
    | true =>
      exact mb.go (P := { P with nx := fun ρ' => whileN ta s n ρ' P, ct := fun ρ' => whileN ta s n ρ' P, bk := P.nx }) (P' := { P' with nx := fun ρ' => whileN ta s n ρ' P', ct := fun ρ' => whileN ta s n ρ' P', bk := P'.nx })
        ⟨fun ρ h => (mono_whileN mc mb n).go le h, le.rt, le.nx, fun ρ h => (mono_whileN mc mb n).go le h, le.ex⟩ h
    | false => exact le.nx _ h) h⟩
theorem pds_while {c : Expr} {body : List Stmt} (hp : PassesOwn (model X.prog X.w) X.A X.env X.xe) (hc : PDT X W c ta) (hb : PDSs X W body s) : PDS X W (.While c body [] pos) (dWhile ta s) :=
  ⟨⟨fun le ⟨n, h⟩ => ⟨n, (mono_whileN hc.mono hb.mono n).go le h⟩⟩, PS.imp (ps_while hp hc.run hb.run) fun D σ H ⟨B, F, ρ, S, n, h⟩ => by
    refine ⟨fun m σ' H' => ∃ F' ρ', Ex F F' ∧ St X.K B F' ρ' σ' H' ∧ whileN ta s m ρ' (postL X.K W B F D), ⟨n, F, ρ, Ex.refl _, S, h⟩, ?_⟩
    rintro m σ' H' ⟨F', ρ', e, S', h'⟩
    cases m with
    | zero => exact h'.elim
    | succ m =>
      refine liftT.of hc.mono (Ex.refl _) S' (hc.mono.go (fun x ρ h => xl_up e x ρ (ex_xl x ρ h)) (fun _ _ h => h) h') fun t ρ1 h1 F1 H1 e1 S1 => ?_
      cases t with
      | true => exact ⟨_, fun _ _ q => ⟨m, Nat.lt_succ_self m, q⟩, liftS.of hb.mono S1 h1 ⟨fun ρ2 h2 F2 σ2 H2 e2 S2 => ⟨F2, ρ2, (e.trans e1).trans e2, S2, h2⟩, (postL_up (W := W) (e.trans e1)).rt, fun ρ2 h2 F2 σ2 H2 e2 S2 => h2 F2 σ2 H2 ((e.trans e1).trans e2) S2,
          fun ρ2 h2 F2 σ2 H2 e2 S2 => ⟨F2, ρ2, (e.trans e1).trans e2, S2, h2⟩, (postL_up (W := W) (e.trans e1)).ex⟩⟩
      | false => exact h1 F1 σ' H1 (e.trans e1) S1⟩

/-! ### what is walked -/
abbrev DI := Env → XP → (List D → Env → Prop) → Prop
structure MonoI (de : DI) : Prop where
  go : ∀ {ρ X X' K K'}, (∀ x ρ, X x ρ → X' x ρ) → (∀ r ρ, K r ρ → K' r ρ) → de ρ X K → de ρ X' K'
/-- the iterator gives the data ds, from F on -/
def Yld (K : PySem.W.Frag) (G0 F0 : Hp) (J : It) (ds : List D) : Prop := ∀ B F ρ σ H, Ex G0 B.G → Ex F0 F → St K B F ρ σ H → (∀ i, i < ds.length → J.go i H) ∧ J.stop ds.length H ∧
  ∀ i d x H', ds[i]? = some d → J.yld i H x H' → ∃ F', Ex F F' ∧ St K B F' ρ σ H' ∧ Rep K F' x d
def liftI (K : PySem.W.Frag) (W : WX) (di : DI) : TI := fun σ H R => ∃ B F ρ, St K B F ρ σ H ∧ di ρ (xl K W B F σ) fun ds ρ' => ∀ J B' F' H', B.Le B' → Ex F F' → St K B' F' ρ' σ H' → Yld K B'.G F' J ds → R J H'
structure PDI (X : Cx) (W : WX) (tg e : Expr) (di : DI) : Prop where
  mono : MonoI di
  run : PI X tg e (liftI X.K W di)
def forL (g : DG) (b : DS) : List D → Env → DP → Prop
  | [], ρ, P => P.nx ρ
  | d :: ds, ρ, P => g d ρ fun ρ1 => b ρ1 { P with nx := fun ρ' => forL g b ds ρ' P, ct := fun ρ' => forL g b ds ρ' P, bk := P.nx }
def dFor (di : DI) (g : DG) (b : DS) : DS := fun ρ P => di ρ P.ex fun ds ρ1 => forL g b ds ρ1 P
theorem mono_forL {g : DG} (mg : MonoG g) (mb : MonoS s) : ∀ ds, MonoS (forL g s ds)
  | [] => ⟨fun le h => le.nx _ h⟩
  | d :: ds => ⟨fun {ρ P P'} le h => mg.go (fun ρ h => mb.go (P := { P with nx := fun ρ' => forL g s ds ρ' P, ct := fun ρ' => forL g s ds ρ' P, bk := P.nx }) (P' := { P' with nx := fun ρ' => forL g s ds ρ' P', ct := fun ρ' => forL g s ds ρ' P', bk := P'.nx })
      ⟨fun ρ h => (mono_forL mg mb ds).go le h, le.rt, le.nx, fun ρ h => (mono_forL mg mb ds).go le h, le.ex⟩ h) h⟩
theorem for_turn {tg : Expr} {body : List Stmt} {g : TG} {dg : DG} {is : List Nat} {B B' : Base} {F F1 : Hp} {ρ1 : Env} {σ : L2.St} {H1 : Hp} {J : It} {ds : List D} {D : Ends} (hg : PDG X tg g dg is) (mb : MonoS s) (l : B.Le B') (e1 : Ex F F1) (S1 : St X.K B' F1 ρ1 σ H1) (Y : Yld X.K B'.G F1 J ds) (h : forL dg s ds ρ1 (postL X.K W B F D)) :
    ∃ W' : Nat → Nat → L2.St → Hp → Prop, (∃ m, W' 0 m σ H1) ∧ ∀ i m σ H, W' i m σ H →
      (J.stop i H ∧ D.nx σ H) ∨ (J.go i H ∧ ∃ N : L2.St → Hp → Prop, (∀ σ' H', N σ' H' → ∃ m', m' < m ∧ W' (i + 1) m' σ' H') ∧ ∀ x H', J.yld i H x H' → g x σ H' fun σ2 H2 => liftS X.K W s { D with nx := N, ct := N, bk := D.nx } σ2 H2) := by
  refine ⟨fun i m σ' H' => ∃ F' ρ', Ex F1 F' ∧ St X.K B' F' ρ' σ' H' ∧ m = ds.length - i ∧ i ≤ ds.length ∧ forL dg s (ds.drop i) ρ' (postL X.K W B F1 D), ⟨ds.length, F1, ρ1, Ex.refl _, S1, rfl, Nat.zero_le _, (mono_forL hg.mono mb _).go (postL_up e1) h⟩, ?_⟩
  rintro i m σ' H' ⟨F', ρ', e', S', rfl, hi', h'⟩
  obtain ⟨y1, y2, y3⟩ := Y B' F' ρ' σ' H' (Ex.refl _) e' S'
  by_cases hlt : i < ds.length
  · have hd : ds.drop i = ds[i] :: ds.drop (i + 1) := List.drop_eq_getElem_cons hlt
    rw [hd] at h'
    refine .inr ⟨y1 i hlt, fun σ2 H2 => ∃ F2 ρ2, Ex F1 F2 ∧ St X.K B' F2 ρ2 σ2 H2 ∧ forL dg s (ds.drop (i + 1)) ρ2 (postL X.K W B F1 D), fun σ2 H2 ⟨F2, ρ2, e2, S2, h2⟩ => ⟨ds.length - (i + 1), by omega, F2, ρ2, e2, S2, rfl, hlt, h2⟩, fun x H3 y => ?_⟩
    obtain ⟨F3, e3, S3, r3⟩ := y3 i ds[i] x H3 (by simp [hlt]) y
    refine hg.run S3 r3 h' fun ρ4 h4 F4 σ4 H4 e4 _ _ S4 => ?_
    have eA := (e'.trans e3).trans e4
    exact liftS.of mb S4 h4 ⟨fun ρ5 h5 F5 σ5 H5 e5 S5 => ⟨F5, ρ5, eA.trans e5, S5, h5⟩, fun r ρ5 h5 v F5 σ5 H5 e5 S5 z => h5 v F5 σ5 H5 (eA.trans e5) (S5.weaken l) (z.weaken l), fun ρ5 h5 F5 σ5 H5 e5 S5 => h5 F5 σ5 H5 (eA.trans e5) (S5.weaken l), fun ρ5 h5 F5 σ5 H5 e5 S5 => ⟨F5, ρ5, eA.trans e5, S5, h5⟩,
      fun x ρ5 h5 F5 σ5 H5 dd v e5 S5 h1 r => h5 F5 σ5 H5 dd v (eA.trans e5) (S5.weaken l) h1 r⟩
  · have e : i = ds.length := by omega
    subst e
    rw [List.drop_length] at h'
    exact .inl ⟨y2, h' F' σ' H' e' (S'.weaken l)⟩
theorem pds_for {tg it : Expr} {body : List Stmt} {di : DI} {g : TG} {dg : DG} {is : List Nat} (hp : PassesOwn (model X.prog X.w) X.A X.env X.xe) (hc : X.calm = true) (hi : PDI X W tg it di) (hg : PDG X tg g dg is) (hb : PDSs X W body s)
    (hs : ∀ x, foldedSetIterable it X.env x = pure x := by intro _; rfl) : PDS X W (.For tg it body [] pos) (dFor di dg s) :=
  ⟨⟨fun le h => hi.mono.go le.ex (fun ds ρ h => (mono_forL hg.mono hb.mono ds).go le h) h⟩, PS.imp (ps_for hp hc hi.run hg.pg hb.run hs) fun D σ H ⟨B, F, ρ, S, h⟩ =>
    ⟨B, F, ρ, S, hi.mono.go ex_xl (fun ds ρ1 h J B' F1 H1 l e1 S1 Y => for_turn (tg := tg) (body := body) hg hb.mono l e1 S1 Y h) h⟩⟩

/-! ### a def's body -/
def outsF : List Sl → Env → List Sl
  | [], _ => []
  | a :: as, s :: ρ => (match a, s with
    | .ow true _, .ow true c => .ow true c
    | _, _ => .un) :: outsF as ρ
  | _ :: as, [] => .un :: outsF as []
def postF (args : List Sl) (XX : Exn → List Sl → Prop) (R : Rv → List Sl → Prop) : DP where
  nx := fun ρ' => R (.d .none) (outsF args ρ')
  rt := fun r ρ' => R r (outsF args ρ')
  bk := fun _ => False
  ct := fun _ => False
  ex := fun x ρ' => XX x (outsF args ρ')
def fill (n : Nat) (args : List Sl) : Env := args ++ List.replicate (n - args.length) .un
theorem outsF_length : ∀ {args : List Sl} {ρ : Env}, (outsF args ρ).length = args.length
  | [], ρ => rfl
  | a :: as, [] => by simp [outsF, outsF_length (args := as)]
  | a :: as, s :: ρ => by simp [outsF, outsF_length (args := as)]
theorem outsF_at : ∀ {args : List Sl} {ρ : Env} {i : Nat}, (outsF args ρ).getD i .un = .un ∨ ∃ c c', (outsF args ρ).getD i .un = .ow true c ∧ ρ.getD i .un = .ow true c ∧ args.getD i .un = .ow true c'
  | [], ρ, i => .inl (by simp [outsF])
  | a :: as, [], 0 => .inl rfl
  | a :: as, [], i + 1 => by
    have := outsF_at (args := as) (ρ := []) (i := i)
    simpa [outsF, List.getD] using this
  | .un :: as, s :: ρ, 0 => .inl rfl
  | .fz _ :: as, s :: ρ, 0 => .inl rfl
  | .ow false _ :: as, s :: ρ, 0 => .inl rfl
  | .ow true _ :: as, .un :: ρ, 0 => .inl rfl
  | .ow true _ :: as, .fz _ :: ρ, 0 => .inl rfl
  | .ow true _ :: as, .ow false _ :: ρ, 0 => .inl rfl
  | .ow true c' :: as, .ow true c :: ρ, 0 => .inr ⟨c, c', rfl, rfl, rfl⟩
  | a :: as, s :: ρ, i + 1 => by
    have := outsF_at (args := as) (ρ := ρ) (i := i)
    simpa [outsF, List.getD] using this
theorem St.exit {K : PySem.W.Frag} {B : Base} {F F' : Hp} {args : List Sl} {ρ' : Env} {σ' : L2.St} {H H' : Hp} {vs : List V} (S : St K B F args (vs.map some) H) (S' : St K B F' ρ' σ' H') : St K B F' (outsF args ρ') (vs.map some) H' := by
  have at_ : ∀ {i c c'}, ρ'.getD i .un = .ow true c → args.getD i .un = .ow true c' → σ'[i]? = (vs.map some)[i]? := fun {i c c'} h h' => by
    obtain ⟨a, e1, _, _, h3⟩ := S'.ow h
    obtain ⟨a', e1', _, _, h3'⟩ := S.ow h'
    rw [← h3 rfl, h3' rfl]
  have is_ : ∀ {i}, isOw ((outsF args ρ').getD i .un) = true → isOw (ρ'.getD i .un) = true ∧ σ'[i]? = (vs.map some)[i]? := fun {i} h => by
    rcases outsF_at (args := args) (ρ := ρ') (i := i) with z | ⟨c, c', z1, z2, z3⟩
    · rw [z] at h; cases h
    · exact ⟨by rw [z2]; rfl, at_ z2 z3⟩
  refine ⟨S'.ex, S'.out, S'.new, S'.ge, S'.thr, by rw [outsF_length]; exact S.len, fun i => ?_, fun i j a h1 h2 e1 e2 => ?_⟩
  · rcases outsF_at (args := args) (ρ := ρ') (i := i) with z | ⟨c, c', z1, z2, z3⟩
    · rw [z]; trivial
    · rw [z1, ← at_ z2 z3]
      have := S'.sl i
      rw [z2] at this
      exact this
  · obtain ⟨a1, b1⟩ := is_ h1
    obtain ⟨a2, b2⟩ := is_ h2
    exact S'.own i j a a1 a2 (by rw [b1]; exact e1) (by rw [b2]; exact e2)
theorem fill_start {K : PySem.W.Frag} {B : Base} {F : Hp} {args : List Sl} {vs : List V} {H : Hp} {N : List Str} (S : St K B F args (vs.map some) H) : St K B F (fill N.length args) (L2.start N vs) H := by
  have hl : vs.length = args.length := by simpa using S.len
  have g1 : ∀ i, (fill N.length args).getD i .un = args.getD i .un := fun i => by
    unfold fill
    by_cases h : i < args.length
    · simp [List.getD, List.getElem?_append_left h]
    · rw [List.getD, List.getElem?_append_right (by omega)]
      by_cases h2 : i - args.length < N.length - args.length
      · rw [List.getElem?_replicate_of_lt h2]
        simp [List.getD, List.getElem?_eq_none (show args.length ≤ i by omega)]
      · rw [List.getElem?_eq_none (by simp; omega)]
        simp [List.getD, List.getElem?_eq_none (show args.length ≤ i by omega)]
  have g2 : ∀ i, isOw (args.getD i .un) = true → i < vs.length := fun i h => by rw [hl]; exact lt_of_getD h
  have g3 : ∀ i, i < vs.length → (start N vs)[i]? = (vs.map some)[i]? := fun i h => by
    unfold L2.start
    rw [List.getElem?_append_left (by simpa using h)]
  refine ⟨S.ex, S.out, S.new, S.ge, S.thr, by simp [fill, L2.start, hl], fun i => ?_, fun i j a h1 h2 e1 e2 => ?_⟩
  · rw [g1]
    by_cases h : i < vs.length
    · rw [g3 i h]; exact S.sl i
    · have : args.getD i .un = .un := by simp [List.getD, List.getElem?_eq_none (show args.length ≤ i by omega)]
      rw [this]; trivial
  · rw [g1] at h1 h2
    rw [g3 i (g2 i h1)] at e1
    rw [g3 j (g2 j h2)] at e2
    exact S.own i j a h1 h2 e1 e2
/-- what a body must do, from its contract -/
theorem body_of {K : PySem.W.Frag} {n : Nat} {dc : DC} {s : DS} {N : List Str} {W : WX} {vs : List V} {H : Hp} {Q : VK} {E : XK} (hsp : spD K n dc vs H Q E) (ms : MonoS s) (hW : ∀ cls d σ H, E cls d H → W cls d σ H)
    (h : ∀ args XX R, args.length = n → dc args XX R → s (fill N.length args) (postF args XX R)) : liftS K W s { nx := fun _ H' => Q .non H', rt := Q } (L2.start N vs) H := by
  obtain ⟨hn, B, F, args, S, hd⟩ := hsp
  have hl : args.length = n := by rw [← hn]; simpa using S.len.symm
  refine liftS.of ms (fill_start S) (h args _ _ hl hd) ⟨fun ρ' q F' σ' H' e S' => ?_, fun r ρ' q v F' σ' H' e S' hr => ?_, fun ρ' q => q.elim, fun ρ' q => q.elim, fun x ρ' q F' σ' H' dd v e S' h1 h2 => hW _ _ _ _ (q F' H' dd v e (S.exit S') h1 h2)⟩
  · exact q .non F' H' e (S.exit S') .none
  · refine q v F' H' e (S.exit S') ?_
    cases hr with
    | d h => exact h
    | nw h =>
      obtain ⟨a, e1, o, h0, _⟩ := h.ex
      exact ⟨a, e1, o, h0⟩
end
end DL
set_option Elab.async false
set_option linter.all false
set_option maxRecDepth 100000
set_option maxHeartbeats 1000000
/-! DL8: what is walked: lists, tuples, ranges, enumerate, zip. -/
namespace DL
open PySem L2 Evl

/-! ### enumerate(tuple) -/
set_option maxHeartbeats 1000000 in
theorem enum_newB {v : Value} {o : Obj} {H : Heap → Prop} (B : Begins v o H) :
    Meets (Builtin.«enumerate.__new__» ⟨[.type "enumerate", v], []⟩) (fun _ R s => H s.heap ∧
      R (.ok (.ret (.ref (s.heap.push o).objs.size))) { s with heap := (s.heap.push o).push { cls := .type "enumerate", data := .fields #[.none, .bool false, .ref s.heap.objs.size, rawInt 0, .none, .none] } }) :=
  .of_wp fun prog w A R s h => by
    obtain ⟨hp, g, d, tk, os⟩ := s; obtain ⟨h1, h⟩ := h
    have hsub := sub_enumerate
    have q1 : ∀ {A' : Around} {E : Value → Shared → Prop} {Q : Value → Shared → Prop}, Q (.ref hp.objs.size) ⟨hp.push o, g, d, tk, os⟩ → wpAny (model prog w) A' (pyIter v) Q E ⟨hp, g, d, tk, os⟩ :=
      fun q => B.iter prog w _ _ ⟨hp, g, d, tk, os⟩ _ h1 q
    wp_walk using q1
    refine wpAny_stack_any fun st => wpAny_pure ?_
    split
    · rename_i c _ _ _ _ _
      cases (c == Value.type "enumerate")
      · wp_walk using q1
        exact ⟨_, rfl, h⟩
      · wp_walk using q1
        exact ⟨_, rfl, h⟩
    · wp_walk using q1
      exact ⟨_, rfl, h⟩
theorem enum_begins1 {prog : Program} {w : World} {A : Around} {E : Value → Shared → Prop} {s : Shared} {v : Value} {o : Obj} {H : Heap → Prop} {Q : Value → Shared → Prop} (B : Begins v o H) (h1 : H s.heap)
    (h : ∀ h', IsEnum h' (s.heap.objs.size + 1) s.heap.objs.size 0 .none → h'.get? s.heap.objs.size = some o → h'.objs.size = s.heap.objs.size + 2 →
      (∀ b o, s.heap.get? b = some o → h'.get? b = some o) → Q (.ref (s.heap.objs.size + 1)) { s with heap := h' }) :
    wpAny (model prog w) A (call (.type "enumerate") [v]) Q E s := by
  refine callType_new F.called_enumerate (by decide) (F.typeCall_enumerate_1 _) (F.newCall_enumerate_1 _) (fun obj => F.args_object_init_2 obj _) F.entry_enumerate_new
    (enum_newB B) ⟨h1, ?_⟩
  have hz : (s.heap.push o).objs.size = s.heap.objs.size + 1 := Heap.size_push ..
  show _ ∧ _
  rw [hz]
  have he : IsEnum ((s.heap.push o).push { cls := .type "enumerate", data := .fields #[.none, .bool false, .ref s.heap.objs.size, rawInt 0, .none, .none] }) (s.heap.objs.size + 1) s.heap.objs.size 0 .none := by
    have := Heap.get?_push_size (s.heap.push o) (o := { cls := .type "enumerate", data := .fields #[.none, .bool false, .ref s.heap.objs.size, rawInt 0, .none, .none] }) rfl
    rw [hz] at this; exact this
  refine ⟨⟨_, he, rfl⟩, h _ he (Heap.get?_push_of_some _ (Heap.get?_push_size _ B.free)) (by rw [Heap.size_push, hz]) fun b o x => Heap.get?_push_of_some _ (Heap.get?_push_of_some _ x)⟩
def IteT (K : PySem.W.Frag) (a : Addr) : It :=
  ⟨fun i H => ∃ (xs : List V) (x : V), SqT K H a xs ∧ xs[i]? = some x, fun i H v H' => ∃ T x, v = .ref T ∧ H T = none ∧ H' = upd H T (.tup [.int (i : Nat), x]) ∧ ∀ xs, SqT K H a xs → xs[i]? = some x, fun i H => ∃ xs : List V, SqT K H a xs ∧ xs.length = i⟩
theorem turn_enumT {P : Program} {w : World} {K : PySem.W.Frag} {elts : List Expr} {kk : Nat} {tpos : Pos} (a e it : Addr) (hai : a ≠ it) (hae : a ≠ e) :
    Turn P w K (.Tuple elts kk tpos) (IteT K a) [e, it] e (fun i h => (∃ old, IsEnum h e it ((i : Nat) : Int) old) ∧ h.IsTupleIter it a i ∧ e ≠ it) where
  mem := by simp
  obj := fun i h st b hb => by
    obtain ⟨⟨old, he⟩, ⟨o, ho, hc, hd⟩, _⟩ := st
    have e' : b = e ∨ b = it := by simpa using hb
    rcases e' with z | z
    · rw [z]; exact ⟨_, he, fun v q => nomatch q⟩
    · rw [z]; exact ⟨o, ho, fun v q => by rw [hd] at q; cases q⟩
  keep := fun i h h' st k => let ⟨⟨old, he⟩, hi, hne⟩ := st; ⟨⟨old, k e (by simp) _ he⟩, hi.at fun o q => k it (by simp) o q, hne⟩
  item := by
    intro X hP hw hK hc i pins s σ H E I hf st hg
    subst hP hw hK
    obtain ⟨⟨old, he⟩, hit, hne⟩ := st
    obtain ⟨xs, x, hq, hx⟩ := hg
    obtain ⟨its, rv, p, hz⟩ := I.tuple hq
    obtain ⟨u, hu, ru⟩ := rv.get hx
    have hel : e < s.heap.objs.size := Heap.lt_size he
    have hil : it < s.heap.objs.size := by obtain ⟨_, q, _⟩ := hit; exact Heap.lt_size q
    have hlt : i < its.toArray.size := by simpa using (List.getElem?_eq_some_iff.mp hu).1
    refine wpAny_pyNext_enum_itemC (n := its.toArray.size) (Draws.tuple (prog := X.prog) (w := X.w) (A := X.A.in1) (show X.A.in1.handled = none from I.ok.hd hc) it a hai its.toArray) he ⟨hit, show s.heap.IsTuple a its.toArray from p⟩ hlt hne (by simp [hne, Ne.symm hae]) fun y h' tk hy ho hit' hT hsz hk => ?_
    have : y = u := by
      have h2 : its[i]? = some y := by simpa using hy
      rw [hu] at h2; exact (Option.some.inj h2).symm
    subst this
    refine ⟨_, rfl, wpAny_letOwnedTupleGo_enum (s := { s with heap := h', toks := tk + 1 }) ho fun h'' he' sb => ?_⟩
    have hT2 : h''.get? s.heap.objs.size = some { cls := .type "tuple", data := .seq #[.int i tk, y] } := (sb.2 _ (Nat.ne_of_gt hel)).trans hT
    have new : ObjOk X.prog X.w (upd H s.heap.objs.size (.tup [.int (i : Nat), x])) h'' s.heap.objs.size (.tup [.int (i : Nat), x]) :=
      ⟨by show 2 ≤ sizeLine; decide, [.int i tk, y], .cons ⟨_, rfl⟩ (.cons ru .nil), ⟨_, hT2, rfl, _, rfl⟩⟩
    have I1 : Inv X pins σ (upd H s.heap.objs.size (.tup [.int (i : Nat), x])) { s with heap := h'', toks := tk + 1 } :=
      I.turnedNew (ch := [e, it]) (fun b ob hb q => (sb.2 b (fun z => hb (by simp [z]))).trans (hk b ob (fun z => hb (by simp [z])) (fun z => hb (by simp [z])) q)) hf (Nat.le_refl _) new
    refine ⟨.ref s.heap.objs.size, _, I1, rfl, ⟨_, x, rfl, I.hok.fresh (Nat.le_refl _), rfl, fun ys hy => by rw [I.tuple_inj hy hq]; exact hx⟩, ⟨⟨y, ?_⟩, hit'.1.at fun o q => (sb.2 it (Ne.symm hne)).trans q, hne⟩, fun b hb => ?_⟩
    · have e1 : ((i + 1 : Nat) : Int) = (i : Int) + 1 := by omega
      rw [e1]; exact he'
    · have hb' : b < s.heap.objs.size := by
        have e' : b = e ∨ b = it := by simpa using hb
        rcases e' with z | z
        · rw [z]; exact hel
        · rw [z]; exact hil
      rw [upd_ne (Nat.ne_of_lt hb')]
      exact (hf b hb).1
  done := by
    intro X hP hw hK hc i pins s σ H E I hf st hg
    subst hP hw hK
    obtain ⟨⟨old, he⟩, hit, hne⟩ := st
    obtain ⟨xs, hq, hx⟩ := hg
    obtain ⟨its, rv, p, hz⟩ := I.tuple hq
    obtain ⟨f0, f1, f2, f3, f4, f5⟩ := hf it (by simp)
    have hl := rv.length
    have hi : its.toArray.size = i := by simp; omega
    refine wpAny_pyNext_enum_endD (Draws.tuple (prog := X.prog) (w := X.w) (A := X.A.in1) (show X.A.in1.handled = none from I.ok.hd hc) it a hai its.toArray) he ⟨by rw [hi]; exact hit, show s.heap.IsTuple a its.toArray from p⟩ fun h' eb => ⟨rfl, I.turned (t' := s.toks) (fun b o hb q => eb b o hb q) f0 f1 f3 f4 f5⟩
  self := fun A i s Q E st h => let ⟨⟨_, he⟩, _⟩ := st; wpAny_pyIter_enum he h
def iEnumT (K : PySem.W.Frag) (ta : TA) : TI := fun σ H R => ta σ H fun vs H1 => ∃ a xs, vs = [.ref a] ∧ SqT K H1 a xs ∧ R (IteT K a) H1
theorem pi_enumT {X : Cx} {e : Expr} {ta : TA} {p pos tpos : Pos} {elts : List Expr} {kk : Nat} (hg : Gl X "enumerate") (hm : X.mg "enumerate" = none) (ha : PA X [e] ta) (hs : starEach [e] X.env = [(false, eval e X.env)] := by rfl) :
    PI X (.Tuple elts kk tpos) (.Call (.Name "enumerate" p) [e] [] pos) (iEnumT X.K ta) := by
  refine ⟨fun pins s σ H R I h => ?_⟩
  refine PyProof.Rows.Call_ (ld_blt I hg hm PyProof.Rows.boot_enumerate (PyProof.Rows.callWith_type1 (thn (ha.run pos pins s σ H _ I h) fun us s1 ⟨vs, H1, I1, r1, q1⟩ => ?_) hs rfl))
  obtain ⟨a, xs, ex, hq, q⟩ := q1
  subst ex
  cases r1 with
  | cons r rr =>
    cases rr
    cases r
    obtain ⟨its, rv, p', hz⟩ := I1.tuple hq
    obtain ⟨oa, hoa, _⟩ := id p'
    have hla : a < s1.heap.objs.size := Heap.lt_size hoa
    refine enum_begins1 (begins_tuple a its.toArray) (show s1.heap.IsTuple a its.toArray from p') fun h' he hit hsz hk => wpAny_pyIter_enum he ?_
    have I2 : Inv X pins σ H1 { s1 with heap := h' } := I1.kept (t' := s1.toks) hk
    refine ⟨s1.heap.objs.size + 1, [s1.heap.objs.size + 1, s1.heap.objs.size], _, _, H1, rfl, I2, turn_enumT a (s1.heap.objs.size + 1) s1.heap.objs.size (Nat.ne_of_lt hla) (Nat.ne_of_lt (Nat.lt_succ_of_lt hla)), ⟨⟨.none, he⟩, ⟨_, hit, rfl, rfl⟩, Nat.succ_ne_self _⟩, fun b hb => ?_, q⟩
    have e' : b = s1.heap.objs.size + 1 ∨ b = s1.heap.objs.size := by simpa using hb
    have hle : s1.heap.objs.size ≤ b := by
      rcases e' with z | z
      · rw [z]; exact Nat.le_add_right _ _
      · rw [z]; exact Nat.le_refl _
    exact I1.fpOk hle (I1.hok.fresh hle)
/-- either -/
theorem PI.or {X : Cx} {tg e : Expr} {w1 w2 : TI} (h1 : PI X tg e w1) (h2 : PI X tg e w2) : PI X tg e (fun σ H R => w1 σ H R ∨ w2 σ H R) := ⟨fun pins s σ H R I h => h.elim (h1.run pins s σ H R I) (h2.run pins s σ H R I)⟩
end DL
set_option Elab.async false
set_option linter.all false
set_option maxRecDepth 100000
set_option maxHeartbeats 1000000
/-! DL9: iterables as rules; comprehensions. -/
namespace DL
open PySem L2 Evl
section
variable {X : Cx} {W : WX} {a b c e tg : Expr} {da db : DE} {das : DAs} {es : List Expr} {pos p : Pos} {K : PySem.W.Frag} {G0 F0 : Hp}
theorem atLt {α : Type} {xs : List α} {i : Nat} (h : i < xs.length) : xs[i]? = some xs[i] := by simp [h]
theorem yld_list {a : Addr} {vs : List V} {ds : List D} (h : SqL K F0 a vs) (r : Reps K F0 vs ds) (inj : ∀ {H ys}, Ex F0 H → SqL K H a ys → SqL K H a vs → True) : Yld K G0 F0 (Itl K a) ds := fun B F ρ σ H _ e S => by
  have hH : SqL K H a vs := xl_l S.ex (ex_l e h)
  refine ⟨fun i hi => ⟨vs, vs[i]'(by rw [r.length]; exact hi), hH, atLt _⟩, ⟨vs, hH, by rw [r.length]; exact Nat.le_refl _⟩, fun i d x H' hd y => ?_⟩
  obtain ⟨rfl, y⟩ := y
  exact ⟨F, Ex.refl _, S, (r.mono e).get i x d (y vs hH) hd⟩
theorem yld_tup {a : Addr} {vs : List V} {ds : List D} (h : SqT K F0 a vs) (r : Reps K F0 vs ds) : Yld K G0 F0 (Itt K a) ds := fun B F ρ σ H _ e S => by
  have hH : SqT K H a vs := xl_t S.ex (ex_t e h)
  refine ⟨fun i hi => ⟨vs, vs[i]'(by rw [r.length]; exact hi), hH, atLt _⟩, ⟨vs, hH, by rw [r.length]; exact Nat.le_refl _⟩, fun i d x H' hd y => ?_⟩
  obtain ⟨rfl, y⟩ := y
  exact ⟨F, Ex.refl _, S, (r.mono e).get i x d (y vs hH) hd⟩
/-- what a value is walked as -/
def seqD : D → (List D → Prop) → Prop
  | .list xs, k => k xs
  | .tuple xs, k => k xs
  | .rol xs, k => k xs
  | _, _ => False
theorem seqD.mono {d : D} {k k' : List D → Prop} (h : ∀ xs, k xs → k' xs) (q : seqD d k) : seqD d k' := by
  cases d <;> first | exact h _ q | exact q.elim
def iSeq (da : DE) : DI := fun ρ X K => da ρ X fun d ρ1 => seqD d fun xs => K xs ρ1
theorem mono_iSeq (m : MonoE da) : MonoI (iSeq da) := ⟨fun hx hk h => m.go hx (fun d ρ h => seqD.mono (fun xs h => hk _ _ h) h) h⟩
/-- a list or a tuple that is walked -/
def iSq (K : PySem.W.Frag) (tl : TE) : TI := fun σ H R => tl σ H fun x H1 => ∃ a, x = .ref a ∧ ((∃ xs, SqL K H1 a xs ∧ R (Itl K a) H1) ∨ ∃ xs, SqT K H1 a xs ∧ R (Itt K a) H1)
theorem pi_sq {l : Expr} {tl : TE} (hl : PE X l tl) : PI X tg l (iSq X.K tl) := by
  refine ⟨fun pins s σ H R I h => ?_⟩
  refine thn (hl.run pins s σ H _ I h) fun v s1 ⟨x, H1, I1, r1, q1⟩ => ?_
  obtain ⟨a, e, q⟩ := q1
  subst e
  cases r1
  rcases q with ⟨xs, hq, q⟩ | ⟨xs, hq, q⟩
  · obtain ⟨its, rv, p, hz⟩ := I1.list hq
    refine wpAny_pyIter_list p.isList ?_
    refine ⟨s1.heap.objs.size, [s1.heap.objs.size], _, _, H1, rfl, I1.kept (t' := s1.toks) fun b o e => Heap.get?_push_of_some _ e, turn_list a _, ⟨_, Heap.get?_push_size _ rfl, rfl, rfl⟩, fun b hb => ?_, q⟩
    have e : b = s1.heap.objs.size := by simpa using hb
    subst e
    exact I1.fpOk (Nat.le_refl _) (I1.hok.fresh (Nat.le_refl _))
  · obtain ⟨its, rv, p, hz⟩ := I1.tuple hq
    refine wpAny_pyIter_tuple (show s1.heap.IsTuple a its.toArray from p) ?_
    refine ⟨s1.heap.objs.size, [s1.heap.objs.size], _, _, H1, rfl, I1.kept (t' := s1.toks) fun b o e => Heap.get?_push_of_some _ e, turn_tuple a _, ⟨_, Heap.get?_push_size _ rfl, rfl, rfl⟩, fun b hb => ?_, q⟩
    have e : b = s1.heap.objs.size := by simpa using hb
    subst e
    exact I1.fpOk (Nat.le_refl _) (I1.hok.fresh (Nat.le_refl _))
theorem PI.imp {w1 w2 : TI} (h : PI X tg e w1) (hi : ∀ σ H R, w2 σ H R → w1 σ H R) : PI X tg e w2 := ⟨fun pins s σ H R I q => h.run pins s σ H R I (hi σ H R q)⟩
theorem pdi_seq (h : PD X W a da) : PDI X W tg a (iSeq da) :=
  ⟨mono_iSeq h.mono, PI.imp (pi_sq h.run) fun σ H R ⟨B, F, ρ, S, q⟩ => liftE.of h.mono (Ex.refl _) S q fun d ρ1 q v F1 H1 e1 S1 r1 => by
    cases d <;> try exact q.elim
    · obtain ⟨p, vs, rfl, h1, r⟩ := r1.list_inv
      exact ⟨p, rfl, .inl ⟨vs, .inl (.inl (S1.ex.on h1)), q _ _ F1 H1 (.refl _) e1 S1 (yld_list (.inl (.inl h1)) r fun _ _ _ => trivial)⟩⟩
    · obtain ⟨p, vs, rfl, h1, r⟩ := r1.tuple_inv
      exact ⟨p, rfl, .inr ⟨vs, xl_t S1.ex h1, q _ _ F1 H1 (.refl _) e1 S1 (yld_tup h1 r)⟩⟩
    · obtain ⟨p, vs, rfl, h1, r⟩ := r1.rol_inv
      exact ⟨p, rfl, .inl ⟨vs, xl_l S1.ex h1, q _ _ F1 H1 (.refl _) e1 S1 (yld_list h1 r fun _ _ _ => trivial)⟩⟩⟩
/-- ranges -/
def rangeD (lo c : Int) (n : Nat) : List D := (List.range n).map fun (i : Nat) => .int (lo + i * c)
theorem rangeD_at {lo c : Int} {n i : Nat} {d : D} (h : (rangeD lo c n)[i]? = some d) : d = .int (lo + i * c) := by
  unfold rangeD at h
  rw [List.getElem?_map] at h
  cases q : (List.range n)[i]? with
  | none => rw [q] at h; cases h
  | some j =>
    have := (List.getElem?_eq_some_iff.mp q).2
    rw [q] at h
    simp at this h
    subst this; exact h.symm
theorem rangeD_length {lo c : Int} {n : Nat} : (rangeD lo c n).length = n := by simp [rangeD]
theorem yld_range {lo : Int} {n : Nat} : Yld K G0 F0 (Itr lo n) (rangeD lo 1 n) := fun B F ρ σ H _ e S => by
  refine ⟨fun i hi => by rw [rangeD_length] at hi; exact hi, by rw [rangeD_length]; exact Nat.le_refl _, fun i d x H' hd y => ?_⟩
  obtain ⟨rfl, rfl⟩ := y
  rw [rangeD_at hd, Int.mul_one]
  exact ⟨F, Ex.refl _, S, .int _⟩
theorem yld_rangeC {lo c : Int} {n : Nat} : Yld K G0 F0 (Itc lo c n) (rangeD lo c n) := fun B F ρ σ H _ e S => by
  refine ⟨fun i hi => by rw [rangeD_length] at hi; exact hi, by rw [rangeD_length]; exact Nat.le_refl _, fun i d x H' hd y => ?_⟩
  obtain ⟨rfl, rfl⟩ := y
  rw [rangeD_at hd]
  exact ⟨F, Ex.refl _, S, .int _⟩
def inR (i : Int) : Prop := -(2 ^ 62) ≤ i ∧ i < 2 ^ 62
def iR1 (das : DAs) : DI := fun ρ X K => das ρ X fun as ρ1 => allD as fun ds => match ds with
  | [.int j] => inR j ∧ K (rangeD 0 1 j.toNat) ρ1
  | _ => False
def iR2 (das : DAs) : DI := fun ρ X K => das ρ X fun as ρ1 => allD as fun ds => match ds with
  | [.int i, .int j] => inR i ∧ inR j ∧ K (rangeD i 1 (j - i).toNat) ρ1
  | _ => False
/-- down by one -/
def iR3 (das : DAs) : DI := fun ρ X K => das ρ X fun as ρ1 => allD as fun ds => match ds with
  | [.int i, .int j, .int c] => inR i ∧ inR j ∧ c = -1 ∧ K (rangeD i (-1) (i - j).toNat) ρ1
  | _ => False
theorem pdi_r1 (hg : Gl X "range") (hm : X.mg "range" = none) (h : PDA X W [a] das) (hs : starEach [a] X.env = [(false, eval a X.env)] := by rfl) : PDI X W tg (.Call (.Name "range" p) [a] [] pos) (iR1 das) :=
  ⟨⟨fun hx hk q => h.mono.go hx (fun as ρ q => allD.mono (fun ds q => by
      split at q
      · exact ⟨q.1, hk _ _ q.2⟩
      · exact q.elim) q) q⟩, PI.imp (pi_range1 hg hm h.run hs) fun σ H R ⟨B, F, ρ, S, q⟩ => liftA.of h.mono (Ex.refl _) S q fun as ρ1 q vs F1 H1 e1 S1 r1 => by
    obtain ⟨ds, r, q⟩ := allD.reps r1 q
    split at q
    · cases r with
      | cons r t =>
        cases t
        cases r.int_inv
        exact ⟨_, rfl, q.1.1, q.1.2, q.2 _ _ F1 H1 (.refl _) e1 S1 yld_range⟩
    · exact q.elim⟩
theorem pdi_r2 (hg : Gl X "range") (hm : X.mg "range" = none) (h : PDA X W [a, b] das) (hs : starEach [a, b] X.env = [(false, eval a X.env), (false, eval b X.env)] := by rfl) (hs2 : starEach [b] X.env = [(false, eval b X.env)] := by rfl) : PDI X W tg (.Call (.Name "range" p) [a, b] [] pos) (iR2 das) :=
  ⟨⟨fun hx hk q => h.mono.go hx (fun as ρ q => allD.mono (fun ds q => by
      split at q
      · exact ⟨q.1, q.2.1, hk _ _ q.2.2⟩
      · exact q.elim) q) q⟩, PI.imp (pi_range2 hg hm h.run hs hs2) fun σ H R ⟨B, F, ρ, S, q⟩ => liftA.of h.mono (Ex.refl _) S q fun as ρ1 q vs F1 H1 e1 S1 r1 => by
    obtain ⟨ds, r, q⟩ := allD.reps r1 q
    split at q
    · cases r with
      | cons r t =>
        cases t with
        | cons r' t =>
          cases t
          cases r.int_inv
          cases r'.int_inv
          exact ⟨_, _, rfl, ⟨q.1.1, q.1.2, q.2.1.1, q.2.1.2⟩, q.2.2 _ _ F1 H1 (.refl _) e1 S1 yld_range⟩
    · exact q.elim⟩
theorem pdi_r3 (hg : Gl X "range") (hm : X.mg "range" = none) (h : PDA X W [a, b, c] das) (hs : starEach [a, b, c] X.env = (false, eval a X.env) :: starEach [b, c] X.env := by rfl) (hpl : (backTo pos (starEach [b, c] X.env)).any (·.1) = false := by rfl)
    : PDI X W tg (.Call (.Name "range" p) [a, b, c] [] pos) (iR3 das) := by
  refine ⟨⟨fun hx hk q => h.mono.go hx (fun as ρ q => allD.mono (fun ds q => by
      split at q
      · exact ⟨q.1, q.2.1, q.2.2.1, hk _ _ q.2.2.2⟩
      · exact q.elim) q) q⟩, PI.imp (pi_range3 hg hm h.run hs hpl) fun σ H R ⟨B, F, ρ, S, q⟩ => liftA.of h.mono (Ex.refl _) S q fun as ρ1 q vs F1 H1 e1 S1 r1 => ?_⟩
  obtain ⟨ds, r, q⟩ := allD.reps r1 q
  split at q
  · cases r with
    | cons r t =>
      cases t with
      | cons r' t =>
        cases t with
        | cons r'' t =>
          cases t
          cases r.int_inv
          cases r'.int_inv
          cases r''.int_inv
          obtain ⟨q1, q2, rfl, q3⟩ := q
          exact ⟨_, _, _, _, rfl, RgC.neg q1.1 q1.2 q2.1 q2.2, q3 _ _ F1 H1 (.refl _) e1 S1 yld_rangeC⟩
  · exact q.elim
/-- enumerate of a list, a tuple -/
def enumD (k : Nat) : List D → List D
  | [] => []
  | x :: xs => .tuple [.int k, x] :: enumD (k + 1) xs
theorem enumD_length : ∀ {xs : List D} {k : Nat}, (enumD k xs).length = xs.length
  | [], _ => rfl
  | x :: xs, k => by simp [enumD, enumD_length (xs := xs)]
theorem enumD_at : ∀ {xs : List D} {k i : Nat} {d : D}, (enumD k xs)[i]? = some d → ∃ x, xs[i]? = some x ∧ d = .tuple [.int ((k + i : Nat) : Int), x]
  | [], _, i, d, h => by simp [enumD] at h
  | x :: xs, k, 0, d, h => by simp [enumD] at h; exact ⟨x, rfl, h.symm⟩
  | x :: xs, k, i + 1, d, h => by
    obtain ⟨y, h1, h2⟩ := enumD_at (xs := xs) (k := k + 1) (i := i) (by simpa [enumD] using h)
    exact ⟨y, by simpa using h1, by rw [h2, show k + 1 + i = k + (i + 1) by omega]⟩
def iEn (das : DAs) : DI := fun ρ X K => das ρ X fun as ρ1 => allD as fun ds => match ds with
  | [d] => seqD d fun xs => K (enumD 0 xs) ρ1
  | _ => False
theorem newPair {B : Base} {F : Hp} {ρ : Env} {σ : L2.St} {H : Hp} {T : Addr} {x y : V} {d e : D} (S : St K B F ρ σ H) (hT : H T = none) (rx : Rep K F x d) (ry : Rep K F y e) :
    ∃ F', Ex F F' ∧ St K B F' ρ σ (upd H T (.tup [x, y])) ∧ Rep K F' (.ref T) (.tuple [d, e]) := by
  obtain ⟨e1, S1⟩ := S.alloc (o := .tup [x, y]) hT
  exact ⟨_, e1, S1, .tup upd_same (.cons (rx.mono e1) (.cons (ry.mono e1) .nil))⟩
theorem yld_enum {a : Addr} {vs : List V} {ds : List D} (h : SqL K F0 a vs) (r : Reps K F0 vs ds) : Yld K G0 F0 (Ite K a) (enumD 0 ds) := fun B F ρ σ H _ e S => by
  have hH : SqL K H a vs := xl_l S.ex (ex_l e h)
  rw [enumD_length]
  refine ⟨fun i hi => ⟨vs, vs[i]'(by rw [r.length]; exact hi), hH, atLt _⟩, ⟨vs, hH, by rw [r.length]; exact Nat.le_refl _⟩, fun i d x H' hd y => ?_⟩
  obtain ⟨T, w, rfl, hT, rfl, y⟩ := y
  obtain ⟨z, hz, rfl⟩ := enumD_at hd
  rw [Nat.zero_add]
  exact newPair S hT (.int _) ((r.mono e).get i w z (y vs hH) hz)
theorem yld_enumT {a : Addr} {vs : List V} {ds : List D} (h : SqT K F0 a vs) (r : Reps K F0 vs ds) : Yld K G0 F0 (IteT K a) (enumD 0 ds) := fun B F ρ σ H _ e S => by
  have hH : SqT K H a vs := xl_t S.ex (ex_t e h)
  rw [enumD_length]
  refine ⟨fun i hi => ⟨vs, vs[i]'(by rw [r.length]; exact hi), hH, atLt _⟩, ⟨vs, hH, r.length⟩, fun i d x H' hd y => ?_⟩
  obtain ⟨T, w, rfl, hT, rfl, y⟩ := y
  obtain ⟨z, hz, rfl⟩ := enumD_at hd
  rw [Nat.zero_add]
  exact newPair S hT (.int _) ((r.mono e).get i w z (y vs hH) hz)
/-- enumerate of either -/
def iEnumA (K : PySem.W.Frag) (ta : TA) : TI := fun σ H R => ta σ H fun vs H1 => ∃ a, vs = [.ref a] ∧ ((∃ xs, SqL K H1 a xs ∧ R (Ite K a) H1) ∨ ∃ xs, SqT K H1 a xs ∧ R (IteT K a) H1)
theorem pi_enumA {X : Cx} {e : Expr} {ta : TA} {p pos tpos : Pos} {elts : List Expr} {kk : Nat} (hg : Gl X "enumerate") (hm : X.mg "enumerate" = none) (ha : PA X [e] ta) (hs : starEach [e] X.env = [(false, eval e X.env)] := by rfl) :
    PI X (.Tuple elts kk tpos) (.Call (.Name "enumerate" p) [e] [] pos) (iEnumA X.K ta) := by
  refine ⟨fun pins s σ H R I h => ?_⟩
  refine PyProof.Rows.Call_ (ld_blt I hg hm PyProof.Rows.boot_enumerate (PyProof.Rows.callWith_type1 (thn (ha.run pos pins s σ H _ I h) fun us s1 ⟨vs, H1, I1, r1, q1⟩ => ?_) hs rfl))
  obtain ⟨a, ex, q⟩ := q1
  subst ex
  cases r1 with
  | cons r rr =>
    cases rr
    cases r
    rcases q with ⟨xs, hq, q⟩ | ⟨xs, hq, q⟩
    · obtain ⟨its, rv, p', hz⟩ := I1.list hq
      refine call_enumerate_list p'.isList fun h' he hit hsz hk => wpAny_pyIter_enum he ?_
      have I2 : Inv X pins σ H1 { s1 with heap := h' } := I1.kept (t' := s1.toks) hk
      refine ⟨s1.heap.objs.size + 1, [s1.heap.objs.size + 1, s1.heap.objs.size], _, _, H1, rfl, I2, turn_enum a (s1.heap.objs.size + 1) s1.heap.objs.size, ⟨⟨.none, he⟩, hit, Nat.succ_ne_self _⟩, fun b hb => ?_, q⟩
      have e' : b = s1.heap.objs.size + 1 ∨ b = s1.heap.objs.size := by simpa using hb
      have hle : s1.heap.objs.size ≤ b := by
        rcases e' with z | z
        · rw [z]; exact Nat.le_add_right _ _
        · rw [z]; exact Nat.le_refl _
      exact I1.fpOk hle (I1.hok.fresh hle)
    · obtain ⟨its, rv, p', hz⟩ := I1.tuple hq
      obtain ⟨oa, hoa, _⟩ := id p'
      have hla : a < s1.heap.objs.size := Heap.lt_size hoa
      refine enum_begins1 (begins_tuple a its.toArray) (show s1.heap.IsTuple a its.toArray from p') fun h' he hit hsz hk => wpAny_pyIter_enum he ?_
      have I2 : Inv X pins σ H1 { s1 with heap := h' } := I1.kept (t' := s1.toks) hk
      refine ⟨s1.heap.objs.size + 1, [s1.heap.objs.size + 1, s1.heap.objs.size], _, _, H1, rfl, I2, turn_enumT a (s1.heap.objs.size + 1) s1.heap.objs.size (Nat.ne_of_lt hla) (Nat.ne_of_lt (Nat.lt_succ_of_lt hla)), ⟨⟨.none, he⟩, ⟨_, hit, rfl, rfl⟩, Nat.succ_ne_self _⟩, fun b hb => ?_, q⟩
      have e' : b = s1.heap.objs.size + 1 ∨ b = s1.heap.objs.size := by simpa using hb
      have hle : s1.heap.objs.size ≤ b := by
        rcases e' with z | z
        · rw [z]; exact Nat.le_add_right _ _
        · rw [z]; exact Nat.le_refl _
      exact I1.fpOk hle (I1.hok.fresh hle)
theorem pdi_enum {elts : List Expr} {kk : Nat} {tpos : Pos} (hg : Gl X "enumerate") (hm : X.mg "enumerate" = none) (h : PDA X W [a] das) (hs : starEach [a] X.env = [(false, eval a X.env)] := by rfl) : PDI X W (.Tuple elts kk tpos) (.Call (.Name "enumerate" p) [a] [] pos) (iEn das) :=
  ⟨⟨fun hx hk q => h.mono.go hx (fun as ρ q => allD.mono (fun ds q => by
      split at q
      · exact seqD.mono (fun xs h => hk _ _ h) q
      · exact q.elim) q) q⟩, PI.imp (pi_enumA hg hm h.run hs) fun σ H R ⟨B, F, ρ, S, q⟩ => liftA.of h.mono (Ex.refl _) S q fun as ρ1 q vs F1 H1 e1 S1 r1 => by
    obtain ⟨ds, r, q⟩ := allD.reps r1 q
    split at q
    · rename_i d
      cases r with
      | cons r t =>
        cases t
        cases d <;> try exact q.elim
        · obtain ⟨p, vs, rfl, h1, r⟩ := r.list_inv
          exact ⟨p, rfl, .inl ⟨vs, .inl (.inl (S1.ex.on h1)), q _ _ F1 H1 (.refl _) e1 S1 (yld_enum (.inl (.inl h1)) r)⟩⟩
        · obtain ⟨p, vs, rfl, h1, r⟩ := r.tuple_inv
          exact ⟨p, rfl, .inr ⟨vs, xl_t S1.ex h1, q _ _ F1 H1 (.refl _) e1 S1 (yld_enumT h1 r)⟩⟩
        · obtain ⟨p, vs, rfl, h1, r⟩ := r.rol_inv
          exact ⟨p, rfl, .inl ⟨vs, xl_l S1.ex h1, q _ _ F1 H1 (.refl _) e1 S1 (yld_enum h1 r)⟩⟩
    · exact q.elim⟩
/-- zip of two lists, of two tuples -/
def zipD : List D → List D → List D := List.zipWith fun x y => .tuple [x, y]
theorem zipD_at {xs ys : List D} {i : Nat} {d : D} (h : (zipD xs ys)[i]? = some d) : ∃ x y, xs[i]? = some x ∧ ys[i]? = some y ∧ d = .tuple [x, y] := by
  unfold zipD at h
  rw [List.getElem?_zipWith] at h
  cases h1 : xs[i]? with
  | none => rw [h1] at h; cases h
  | some x =>
    cases h2 : ys[i]? with
    | none => rw [h1, h2] at h; cases h
    | some y => rw [h1, h2] at h; exact ⟨x, y, rfl, rfl, (Option.some.inj h).symm⟩
def iZp (das : DAs) : DI := fun ρ X K => das ρ X fun as ρ1 => allD as fun ds => match ds with
  | [.list xs, .list ys] => K (zipD xs ys) ρ1
  | [.tuple xs, .tuple ys] => K (zipD xs ys) ρ1
  | _ => False
theorem yld_zip {a b : Addr} {vs ws : List V} {ds es : List D} (h : SqL K F0 a vs) (r : Reps K F0 vs ds) (h2 : SqL K F0 b ws) (r2 : Reps K F0 ws es) : Yld K G0 F0 (Itz K a b) (zipD ds es) := fun B F ρ σ H _ e S => by
  have hH : SqL K H a vs := xl_l S.ex (ex_l e h)
  have hH2 : SqL K H b ws := xl_l S.ex (ex_l e h2)
  have hl : (zipD ds es).length = min ds.length es.length := by simp [zipD]
  rw [hl]
  refine ⟨fun i hi => ⟨vs, ws, vs[i]'(by rw [r.length]; omega), ws[i]'(by rw [r2.length]; omega), hH, hH2, atLt _, atLt _⟩, ⟨vs, ws, hH, hH2, by rw [r.length, r2.length]; omega⟩, fun i d x H' hd y => ?_⟩
  obtain ⟨T, u, w, rfl, hT, rfl, y1, y2⟩ := y
  obtain ⟨z, z', hz, hz', rfl⟩ := zipD_at hd
  exact newPair S hT ((r.mono e).get i u z (y1 vs hH) hz) ((r2.mono e).get i w z' (y2 ws hH2) hz')
theorem yld_zipT {a b : Addr} {vs ws : List V} {ds es : List D} (h : SqT K F0 a vs) (r : Reps K F0 vs ds) (h2 : SqT K F0 b ws) (r2 : Reps K F0 ws es) : Yld K G0 F0 (RZ.ItzT K a b) (zipD ds es) := fun B F ρ σ H _ e S => by
  have hH : SqT K H a vs := xl_t S.ex (ex_t e h)
  have hH2 : SqT K H b ws := xl_t S.ex (ex_t e h2)
  have hl : (zipD ds es).length = min ds.length es.length := by simp [zipD]
  rw [hl]
  refine ⟨fun i hi => ⟨vs, ws, vs[i]'(by rw [r.length]; omega), ws[i]'(by rw [r2.length]; omega), hH, hH2, atLt _, atLt _⟩, ⟨vs, ws, hH, hH2, by rw [r.length, r2.length]; omega⟩, fun i d x H' hd y => ?_⟩
  obtain ⟨T, u, w, rfl, hT, rfl, y1, y2⟩ := y
  obtain ⟨z, z', hz, hz', rfl⟩ := zipD_at hd
  exact newPair S hT ((r.mono e).get i u z (y1 vs hH) hz) ((r2.mono e).get i w z' (y2 ws hH2) hz')
theorem pdi_zip {elts : List Expr} {kk : Nat} {tpos : Pos} (hg : Gl X "zip") (hm : X.mg "zip" = none) (h : PDA X W [a, b] das) (hs : starEach [a, b] X.env = (false, eval a X.env) :: starEach [b] X.env := by rfl) (hpl : (backTo pos (starEach [b] X.env)).any (·.1) = false := by rfl) :
    PDI X W (.Tuple elts kk tpos) (.Call (.Name "zip" p) [a, b] [] pos) (iZp das) :=
  ⟨⟨fun hx hk q => h.mono.go hx (fun as ρ q => allD.mono (fun ds q => by
      split at q
      · exact hk _ _ q
      · exact hk _ _ q
      · exact q.elim) q) q⟩, PI.imp (RZ.pi_zipA hg hm h.run hs hpl) fun σ H R ⟨B, F, ρ, S, q⟩ => liftA.of h.mono (Ex.refl _) S q fun as ρ1 q vs F1 H1 e1 S1 r1 => by
    obtain ⟨ds, r, q⟩ := allD.reps r1 q
    split at q
    · cases r with
      | cons r t =>
        cases t with
        | cons r' t =>
          cases t
          obtain ⟨p, vs, rfl, h1, r⟩ := r.list_inv
          obtain ⟨p', vs', rfl, h1', r'⟩ := r'.list_inv
          exact ⟨p, p', vs, vs', rfl, .inl ⟨.inl (.inl (S1.ex.on h1)), .inl (.inl (S1.ex.on h1')), q _ _ F1 H1 (.refl _) e1 S1 (yld_zip (.inl (.inl h1)) r (.inl (.inl h1')) r')⟩⟩
    · cases r with
      | cons r t =>
        cases t with
        | cons r' t =>
          cases t
          obtain ⟨p, vs, rfl, h1, r⟩ := r.tuple_inv
          obtain ⟨p', vs', rfl, h1', r'⟩ := r'.tuple_inv
          exact ⟨p, p', vs, vs', rfl, .inr ⟨xl_t S1.ex h1, xl_t S1.ex h1', q _ _ F1 H1 (.refl _) e1 S1 (yld_zipT h1 r h1' r')⟩⟩
    · exact q.elim⟩
end
end DL
set_option Elab.async false
set_option linter.all false
set_option maxRecDepth 100000
set_option maxHeartbeats 1000000
/-! DL10: comprehensions. -/
namespace DL
open PySem L2 Evl
/-- within a comprehension nothing is raised -/
abbrev W0 : WX := fun _ _ _ _ => False
abbrev X0 : XP := fun _ _ => False
def wipeE : List Nat → Env → Env
  | [], ρ => ρ
  | i :: vs, ρ => (wipeE vs ρ).set i .un
def fzOnly : Sl → Sl
  | .fz d => .fz d
  | _ => .un
def restE : List Nat → Env → Env → Env
  | [], _, ρ2 => ρ2
  | i :: vs, ρ1, ρ2 => (restE vs ρ1 ρ2).set i (fzOnly (gt ρ1 i))
section
variable {K : PySem.W.Frag} {B : Base} {F F' : Hp} {ρ ρ1 : Env} {σ σ2 : L2.St} {H H' : Hp}
theorem wipeE_length : ∀ {vs : List Nat}, (wipeE vs ρ).length = ρ.length
  | [] => rfl
  | i :: vs => by simp [wipeE, wipeE_length (vs := vs)]
theorem restE_length {ρ2 : Env} : ∀ {vs : List Nat}, (restE vs ρ1 ρ2).length = ρ2.length
  | [] => rfl
  | i :: vs => by simp [restE, restE_length (vs := vs)]
theorem wipeE_at : ∀ {vs : List Nat} {j : Nat}, (wipeE vs ρ).getD j .un = if j ∈ vs then .un else ρ.getD j .un
  | [], j => by simp [wipeE]
  | i :: vs, j => by
    by_cases q : i = j
    · subst q
      by_cases h : i < (wipeE vs ρ).length
      · rw [wipeE, getD_set_self h]; simp
      · rw [wipeE, List.set_eq_of_length_le (by omega)]
        rw [List.getD, List.getElem?_eq_none (by omega)]; simp
    · have q' : ¬ j = i := fun z => q z.symm
      rw [wipeE, getD_set_ne q, wipeE_at]
      simp [q']
theorem wipe_at : ∀ {vs : List Nat} {j : Nat}, j ∉ vs → (wipe σ vs)[j]? = σ[j]?
  | [], j, _ => rfl
  | i :: vs, j, h => by
    have h1 : i ≠ j := fun z => h (by simp [z])
    rw [wipe, List.getElem?_set_ne h1, wipe_at fun z => h (by simp [z])]
theorem wipe_in : ∀ {vs : List Nat} {j : Nat}, j ∈ vs → j < σ.length → (wipe σ vs)[j]? = some none
  | [], j, h, _ => by simp at h
  | i :: vs, j, h, hl => by
    by_cases q : i = j
    · subst q
      rw [wipe, List.getElem?_set_self (by rw [wipe_length]; exact hl)]
    · rw [wipe, List.getElem?_set_ne q]
      exact wipe_in (by simpa [Ne.symm q] using h) hl
theorem wipe_eq {vs : List Nat} (hl : σ2.length = σ.length) (h : ∀ j, j ∉ vs → σ2[j]? = σ[j]?) : wipe σ2 vs = wipe σ vs := by
  apply List.ext_getElem?
  intro j
  by_cases q : j ∈ vs
  · by_cases hj : j < σ.length
    · rw [wipe_in q hj, wipe_in q (by omega)]
    · rw [List.getElem?_eq_none (by rw [wipe_length]; omega), List.getElem?_eq_none (by rw [wipe_length]; omega)]
  · rw [wipe_at q, wipe_at q, h j q]
theorem wipe_wipe {vs : List Nat} : wipe (wipe σ vs) vs = wipe σ vs := wipe_eq (wipe_length σ vs) fun j h => wipe_at h
theorem St.wiped (S : St K B F ρ σ H) (vs : List Nat) : St K B F (wipeE vs ρ) (wipe σ vs) H := by
  have is_ : ∀ i, isOw ((wipeE vs ρ).getD i .un) = true → i ∉ vs ∧ isOw (ρ.getD i .un) = true := fun i h => by
    rw [wipeE_at] at h
    by_cases q : i ∈ vs
    · rw [if_pos q] at h; cases h
    · rw [if_neg q] at h; exact ⟨q, h⟩
  refine ⟨S.ex, S.out, S.new, S.ge, S.thr, by rw [wipe_length, wipeE_length]; exact S.len, fun i => ?_, fun i j a h1 h2 e1 e2 => ?_⟩
  · rw [wipeE_at]
    by_cases q : i ∈ vs
    · rw [if_pos q]; trivial
    · rw [if_neg q, wipe_at q]; exact S.sl i
  · obtain ⟨a1, a2⟩ := is_ i h1
    obtain ⟨b1, b2⟩ := is_ j h2
    rw [wipe_at a1] at e1
    rw [wipe_at b1] at e2
    exact S.own i j a a2 b2 e1 e2
theorem restE_at {ρ2 : Env} (hlen : ρ2.length = ρ1.length) : ∀ {vs : List Nat} {j : Nat}, (restE vs ρ1 ρ2).getD j .un = if j ∈ vs then fzOnly (gt ρ1 j) else ρ2.getD j .un
  | [], j => by simp [restE]
  | i :: vs, j => by
    by_cases q : i = j
    · subst q
      by_cases h : i < (restE vs ρ1 ρ2).length
      · rw [restE, getD_set_self h]; simp
      · rw [restE, List.set_eq_of_length_le (by omega)]
        rw [List.getD, List.getElem?_eq_none (by omega)]
        rw [restE_length] at h
        have : gt ρ1 i = .un := by unfold gt; rw [List.getD, List.getElem?_eq_none (by omega)]; rfl
        simp [this, fzOnly]
    · have q' : ¬ j = i := fun z => q z.symm
      rw [restE, getD_set_ne q, restE_at hlen]
      simp [q']
/-- the block is left: its own names are again what they were -/
theorem St.rest {ρ2 : Env} (S : St K B F ρ1 σ H) (vs : List Nat) (e : Ex F F') (S2 : St K B F' ρ2 (wipe σ vs) H') (hw : ∀ j ∈ vs, isOw (ρ2.getD j .un) = false) : St K B F' (restE vs ρ1 ρ2) σ H' := by
  have at_ := fun j => restE_at (vs := vs) (j := j) (show ρ2.length = ρ1.length by rw [← S2.len, wipe_length, S.len])
  have is_ : ∀ i, isOw ((restE vs ρ1 ρ2).getD i .un) = true → i ∉ vs ∧ isOw (ρ2.getD i .un) = true := fun i h => by
    rw [at_] at h
    by_cases q : i ∈ vs
    · rw [if_pos q] at h
      cases hs : gt ρ1 i <;> rw [hs] at h <;> cases h
    · rw [if_neg q] at h; exact ⟨q, h⟩
  refine ⟨S2.ex, S2.out, S2.new, S2.ge, S2.thr, by rw [restE_length, ← S2.len, wipe_length], fun i => ?_, fun i j a h1 h2 e1 e2 => ?_⟩
  · rw [at_]
    by_cases q : i ∈ vs
    · rw [if_pos q]
      cases hs : gt ρ1 i with
      | un => trivial
      | ow b c => trivial
      | fz d =>
        obtain ⟨v, e1, r⟩ := S.fz hs
        exact ⟨v, e1, r.mono e⟩
    · rw [if_neg q]
      have := S2.sl i
      rw [wipe_at q] at this
      exact this
  · obtain ⟨a1, a2⟩ := is_ i h1
    obtain ⟨b1, b2⟩ := is_ j h2
    exact S2.own i j a a2 b2 (by rw [wipe_at a1]; exact e1) (by rw [wipe_at b1]; exact e2)
end
structure PDTs (X : Cx) (W : WX) (es : List Expr) (de : DT) : Prop where
  mono : MonoT de
  run : PTs X es (liftT X.K W de)
def bYes : DT := fun ρ _ K => K true ρ
section
variable {X : Cx} {W : WX} {a b c e elt tg it : Expr} {da db : DE} {dt : DT} {di : DI} {das : DAs} {es ifs : List Expr} {pos p : Pos}
theorem PTs.imp {t t' : TT} (h : PTs X es t) (hi : ∀ σ H Q, t' σ H Q → t σ H Q) : PTs X es t' := ⟨fun pins s σ H Q I q => h.run pins s σ H Q I (hi σ H Q q)⟩
theorem pdts_nil : PDTs X W [] bYes := ⟨⟨fun hx hk h => hk _ _ h⟩, PTs.imp pts_nil fun σ H Q ⟨B, F, ρ, S, h⟩ => h F H (Ex.refl _) S⟩
theorem pdts_one (h : PDT X W c dt) : PDTs X W [c] dt := ⟨h.mono, pts_one h.run⟩
/-- the turns of a list comprehension -/
def lcL (dg : DG) (dt : DT) (de : DE) (vs : List Nat) : List D → List D → Env → (List D → Env → Prop) → Prop
  | [], acc, ρ, K => K acc ρ
  | d :: ds, acc, ρ, K => dg d ρ fun ρ1 => dt ρ1 X0 fun b ρ2 => if b = true then de ρ2 X0 fun y ρ3 => lcL dg dt de vs ds (acc ++ [y]) (wipeE vs ρ3) K else lcL dg dt de vs ds acc (wipeE vs ρ2) K
def nLC (di : DI) (dg : DG) (dt : DT) (de : DE) (vs : List Nat) : NE := fun ρ X K => di ρ X fun ds ρ1 => ds.length ≤ 1000000 ∧ lcL dg dt de vs ds [] (wipeE vs ρ1) fun acc ρ2 => K (.lst acc) (restE vs ρ1 (wipeE vs ρ2))
theorem mono_lcL {dg : DG} {vs : List Nat} (mg : MonoG dg) (mt : MonoT dt) (me : MonoE da) : ∀ {ds acc : List D} {ρ : Env} {K K' : List D → Env → Prop}, (∀ xs ρ, K xs ρ → K' xs ρ) → lcL dg dt da vs ds acc ρ K → lcL dg dt da vs ds acc ρ K'
  | [], _, _, _, _, hk, h => hk _ _ h
  | d :: ds, acc, ρ, K, K', hk, h => mg.go (fun ρ h => mt.go (fun _ _ h => h) (fun b ρ h => by
    cases b with
    | true => exact me.go (fun _ _ h => h) (fun y ρ h => mono_lcL mg mt me hk h) h
    | false => exact mono_lcL mg mt me hk h) h) h
theorem mono_nLC {dg : DG} {vs : List Nat} (mi : MonoI di) (mg : MonoG dg) (mt : MonoT dt) (me : MonoE da) : MonoN (nLC di dg dt da vs) := ⟨fun hx hk h => mi.go hx (fun ds ρ h => ⟨h.1, mono_lcL mg mt me (fun xs ρ h => hk _ _ h) h.2⟩) h⟩
theorem lc_turn {dg : DG} {g : TG} {is vs : List Nat} {Xb : Cx} (hK : Xb.K = X.K) (hg : PDG Xb tg g dg is) (mt : MonoT dt) (me : MonoE da) (his : ∀ j ∈ is, j ∈ vs) {B B' : Base} {F F1 : Hp} {ρ1 : Env} {σ : L2.St} {H1 : Hp} {J : It} {ds : List D} {Q : VK}
    (l : B.Le B') (e1 : Ex F F1) (S1 : St X.K B' F1 ρ1 σ H1) (Y : Yld X.K B'.G F1 J ds) (h : ds.length ≤ 1000000 ∧ lcL dg dt da vs ds [] (wipeE vs ρ1) fun acc ρ2 => ∀ v F' H', Ex F F' → St X.K B F' (restE vs ρ1 (wipeE vs ρ2)) σ H' → NwR X.K B F' (restE vs ρ1 (wipeE vs ρ2)) σ H' v (.lst acc) → Q v H') :
    ∀ D, H1 D = none → ∃ W' : Nat → Nat → Hp → Prop, (∃ m, W' 0 m (upd H1 D (.lst []))) ∧ ∀ i m H, W' i m H →
      (J.stop i H ∧ Q (.ref D) H) ∨ (J.go i H ∧ ∃ Nx : Hp → Prop, (∀ H', Nx H' → ∃ m', m' < m ∧ W' (i + 1) m' H') ∧ ∀ x H', J.yld i H x H' → g x (wipe σ vs) H' fun σ2 H2 => wipe σ2 vs = wipe σ vs ∧ liftT X.K W0 dt σ2 H2 fun b H3 =>
        if b = true then liftE X.K W0 da σ2 H3 fun y H4 => ∃ acc, H4 D = some (.lst acc) ∧ acc.length < sizeLine ∧ Nx (upd H4 D (.lst (acc ++ [y]))) else Nx H3) := by
  intro Dl hD
  obtain ⟨hz, h⟩ := h
  -- the new list at Dl
  obtain ⟨S2, fD, gD, h0D⟩ := S1.keepNew (o := .lst []) hD
  have f0D : B'.F0 Dl = none := by
    cases q : B'.F0 Dl with
    | none => rfl
    | some u => have := S1.ge _ _ q; rw [fD] at this; cases this
  have noD : ∀ i, isOw ((wipeE vs ρ1).getD i .un) = true → (wipe σ vs)[i]? ≠ some (some (.ref Dl)) := fun i hi z => by
    have S3 := S1.wiped vs
    cases hs : (wipeE vs ρ1).getD i .un with
    | un => rw [hs] at hi; cases hi
    | fz d => rw [hs] at hi; cases hi
    | ow b c =>
      obtain ⟨a', e1, ⟨_, _, o', ho', _⟩, _⟩ := S3.ow hs
      rw [z] at e1
      have : Dl = a' := by simpa using e1
      subst this
      rw [hD] at ho'; cases ho'
  -- the invariant
  refine ⟨fun i m H' => ∃ (F' : Hp) (ρ' : Env) (acc : List D) (accV : List V), Ex F1 F' ∧ St X.K (B'.prot Dl (.lst accV)) F' ρ' (wipe σ vs) H' ∧ Reps X.K F' accV acc ∧ acc.length ≤ i ∧ (∀ j ∈ vs, isOw (ρ'.getD j .un) = false) ∧ m = ds.length - i ∧ i ≤ ds.length ∧
    lcL dg dt da vs (ds.drop i) acc ρ' fun acc ρ2 => ∀ v F' H', Ex F F' → St X.K B F' (restE vs ρ1 (wipeE vs ρ2)) σ H' → NwR X.K B F' (restE vs ρ1 (wipeE vs ρ2)) σ H' v (.lst acc) → Q v H', ?_, ?_⟩
  · refine ⟨ds.length, F1, wipeE vs ρ1, [], [], Ex.refl _, (S2.wiped vs).prot upd_same fD noD, .nil, Nat.le_refl _, fun j hj => by rw [wipeE_at, if_pos hj]; rfl, rfl, Nat.zero_le _, h⟩
  · rintro i m H' ⟨F', ρ', acc, accV, e', S', rA, hla, hwp, rfl, hi', h'⟩
    obtain ⟨y1, y2, y3⟩ := Y (B'.prot Dl (.lst accV)) F' ρ' (wipe σ vs) H' (Ex.new gD) e' S'
    by_cases hlt : i < ds.length
    · have hd : ds.drop i = ds[i] :: ds.drop (i + 1) := List.drop_eq_getElem_cons hlt
      rw [hd] at h'
      refine .inr ⟨y1 i hlt, fun H2 => ∃ (F' : Hp) (ρ' : Env) (acc : List D) (accV : List V), Ex F1 F' ∧ St X.K (B'.prot Dl (.lst accV)) F' ρ' (wipe σ vs) H2 ∧ Reps X.K F' accV acc ∧ acc.length ≤ i + 1 ∧ (∀ j ∈ vs, isOw (ρ'.getD j .un) = false) ∧
        lcL dg dt da vs (ds.drop (i + 1)) acc ρ' fun acc ρ2 => ∀ v F' H', Ex F F' → St X.K B F' (restE vs ρ1 (wipeE vs ρ2)) σ H' → NwR X.K B F' (restE vs ρ1 (wipeE vs ρ2)) σ H' v (.lst acc) → Q v H',
        fun H2 ⟨F2, ρ2, acc2, accV2, e2, S2, r2, l2, w2, h2⟩ => ⟨ds.length - (i + 1), by omega, F2, ρ2, acc2, accV2, e2, S2, r2, l2, w2, rfl, hlt, h2⟩, fun x H3 y => ?_⟩
      obtain ⟨F3, e3, S3, r3⟩ := y3 i ds[i] x H3 (by simp [hlt]) y
      have S3 : St Xb.K (B'.prot Dl (.lst accV)) F3 ρ' (wipe σ vs) H3 := by rw [hK]; exact S3
      have r3 : Rep Xb.K F3 x ds[i] := by rw [hK]; exact r3
      refine hg.run S3 r3 h' fun ρ4 h4 F4 σ4 H4 e4 l4 o4 S4 => ?_
      have S4 : St X.K (B'.prot Dl (.lst accV)) F4 ρ4 σ4 H4 := by rw [← hK]; exact S4
      have w4 : wipe σ4 vs = wipe σ vs := by
        have := wipe_eq (σ := wipe σ vs) (σ2 := σ4) (vs := vs) l4 fun j hj => o4 j fun z => hj (his j z)
        rw [this, wipe_wipe]
      refine ⟨w4, liftT.of (W := W0) (F0 := F4) mt (Ex.refl _) S4 (mt.go (fun _ _ h => h.elim) (fun _ _ h => h) h4) fun t ρ5 h5 F5 H5 e5 S5 => ?_⟩
      have wip : ∀ {ρ : Env}, ∀ j ∈ vs, isOw ((wipeE vs ρ).getD j .un) = false := fun {ρ} j hj => by rw [wipeE_at, if_pos hj]; rfl
      cases t with
      | false =>
        have S6 := S5.wiped vs
        rw [w4] at S6
        exact ⟨F5, _, acc, accV, ((e'.trans e3).trans e4).trans e5, S6, rA.mono ((e3.trans e4).trans e5), by omega, wip, h5⟩
      | true =>
        refine liftE.of (W := W0) (F0 := F5) me (Ex.refl _) S5 (me.go (fun _ _ h => h.elim) (fun _ _ h => h) h5) fun z ρ6 h6 u F6 H6 e6 S6 r6 => ?_
        have eA := (((e'.trans e3).trans e4).trans e5).trans e6
        have eB := ((e3.trans e4).trans e5).trans e6
        obtain ⟨S7, hD7, fD7, no7⟩ := S6.unprot gD f0D fun _ z => (nomatch z)
        refine ⟨accV, hD7, ?_, F6, _, acc ++ [z], accV ++ [u], eA, ?_, (rA.mono eB).append (.cons r6 .nil), by simp; omega, wip, h6⟩
        · rw [rA.length]
          have : acc.length ≤ 1000000 := by omega
          have h2 : (1000000 : Nat) < sizeLine := by rw [sizeLine_eq]; decide
          omega
        · -- the list is written: out of the ground, into it
          have S8 := S7.wiped vs
          rw [w4] at S8
          have no8 : ∀ j, isOw ((wipeE vs ρ6).getD j .un) = true → (wipe σ vs)[j]? ≠ some (some (.ref Dl)) := fun j hj z => by
            rw [wipeE_at] at hj
            by_cases q : j ∈ vs
            · rw [if_pos q] at hj; cases hj
            · rw [if_neg q] at hj
              refine no7 j hj ?_
              rw [← w4, wipe_at q] at z; exact z
          -- a thing that nobody holds is written
          have S9 : St X.K B' F6 (wipeE vs ρ6) (wipe σ vs) (upd H6 Dl (.lst (accV ++ [u]))) := by
            refine ⟨S8.ex.upd fD7, fun x w hx => ?_, S8.new, S8.ge, S8.thr.upd fun _ z => (nomatch z), S8.len, fun j => ?_, S8.own⟩
            · have q : x ≠ Dl := fun z => by rw [z, gD] at hx; cases hx
              rw [upd_ne q]; exact S8.out x w hx
            · have s := S8.sl j
              cases hs : (wipeE vs ρ6).getD j .un with
              | un => trivial
              | fz d => rw [hs] at s; exact s
              | ow b' c2 =>
                rw [hs] at s
                obtain ⟨a2, e2, ⟨nf2, ng2, u2, hu2, hc2⟩, g2, g3⟩ := s
                have q : a2 ≠ Dl := fun z => no8 j (by rw [hs]; rfl) (by rw [e2, z])
                exact ⟨a2, e2, ⟨nf2, ng2, u2, by rw [upd_ne q]; exact hu2, hc2⟩, g2, g3⟩
          exact S9.prot upd_same fD7 no8
    · have e : i = ds.length := by omega
      subst e
      rw [List.drop_length] at h'
      refine .inl ⟨y2, ?_⟩
      obtain ⟨S7, hD7, fD7, no7⟩ := S'.unprot gD f0D fun _ z => (nomatch z)
      have S7w := S7.wiped vs
      rw [wipe_wipe] at S7w
      have S8 := S1.rest vs e' S7w fun j hj => by rw [wipeE_at, if_pos hj]; rfl
      refine h' _ F' H' (e1.trans e') (S8.weaken l) (NwR.weaken l ⟨Dl, rfl, ⟨fD7, gD, .lst accV, hD7, accV, rfl, rA⟩, h0D, fun j hj z => ?_⟩)
      rw [restE_at (by rw [wipeE_length, ← S7.len, wipe_length, S1.len])] at hj
      by_cases q : j ∈ vs
      · rw [if_pos q] at hj
        cases hs2 : gt ρ1 j <;> rw [hs2] at hj <;> cases hj
      · rw [if_neg q, wipeE_at, if_neg q] at hj
        exact no7 j hj (by rw [wipe_at q]; exact z)
/-- the reading of a list comprehension -/
theorem lcT {dg : DG} {g : TG} {is vs : List Nat} {Xb : Cx} (hK : Xb.K = X.K) (mi : MonoI di) (hg : PDG Xb tg g dg is) (mt : MonoT dt) (me : MonoE da) (his : ∀ j ∈ is, j ∈ vs) {σ : L2.St} {H : Hp} {Q : VK} (h : liftN X.K W (nLC di dg dt da vs) σ H Q) :
    tLc (liftI X.K W di) g (liftT X.K W0 dt) (liftE X.K W0 da) vs σ H Q := by
  obtain ⟨B, F, ρ, S, h⟩ := h
  exact ⟨B, F, ρ, S, mi.go (fun _ _ h => h) (fun ds ρ1 h J B' F1 H1 l e1 S1 Y => lc_turn hK hg mt me his l e1 S1 Y h) h⟩
end
end DL
set_option Elab.async false
set_option linter.all false
set_option maxRecDepth 100000
set_option maxHeartbeats 1000000
/-! DL11: the rules of list comprehensions. -/
namespace DL
open PySem L2 Evl
section
variable {X : Cx} {W : WX} {a b c e elt tg it : Expr} {da db de : DE} {dt : DT} {di : DI} {dn : NE} {das : DAs} {es ifs : List Expr} {pos p : Pos}
theorem pn_lc {dg : DG} {g : TG} {is vs : List Nat} {scope : Scope} {own : List (Str × Nat)} (hc : X.calm = true) (hN : X.N.Nodup) (hi : PDI X W tg it di) (ok : BlkOk X.N X.env.scope scope own) (hv : own.map (·.2) = vs)
    (hg : ∀ (s : Shared) (H : Hp) (C : Addr) (cl : List (Str × Addr)) (fp : List Addr), PDG (X.blk s H scope (compEnvC scope cl C X.env) fp) tg g dg is) (his : ∀ j ∈ is, j ∈ vs)
    (ht : ∀ (s : Shared) (H : Hp) (C : Addr) (cl : List (Str × Addr)) (fp : List Addr), PDTs (X.blk s H scope (compEnvC scope cl C X.env) fp) W0 ifs dt)
    (he : ∀ (s : Shared) (H : Hp) (C : Addr) (cl : List (Str × Addr)) (fp : List Addr), PD (X.blk s H scope (compEnvC scope cl C X.env) fp) W0 elt de) (hs : ∀ x, foldedSetIterable it X.env x = pure x := by intro _; rfl) :
    PN X W (.ListComp elt [⟨tg, it, ifs, 0⟩] scope pos) (nLC di dg dt de vs) := by
  subst hv
  have mg := (hg X.s_0 X.H_0 0 [] []).mono
  have mt := (ht X.s_0 X.H_0 0 [] []).mono
  have me := (he X.s_0 X.H_0 0 [] []).mono
  exact ⟨mono_nLC hi.mono mg mt me, PE.imp (pe_lc (pos := pos) hc hN hi.run ok (fun s H C cl fp => (hg s H C cl fp).pg) (fun s H C cl fp => (ht s H C cl fp).run) (fun s H C cl fp => (he s H C cl fp).run) hs)
    fun σ H Q h => lcT (Xb := X.blk X.s_0 X.H_0 scope (compEnvC scope [] 0 X.env) []) rfl hi.mono (hg _ _ _ _ _) mt me his h⟩
theorem pds_ownLc {i : Nat} {y : Str} {py spos : Pos} {dg : DG} {g : TG} {is vs : List Nat} {scope : Scope} {own : List (Str × Nat)} (hc : X.calm = true) (hN : X.N.Nodup) (hy : X.N[i]? = some y) (hyl : X.env.scope.names.lookup y = some .local)
    (hsw : swapsWith (.ListComp elt [⟨tg, it, ifs, 0⟩] scope pos) (some (.Name y py)) spos.line X.env = pure true) (hi : PDI X W tg it di) (ok : BlkOk X.N X.env.scope scope own) (hv : own.map (·.2) = vs)
    (hg : ∀ (s : Shared) (H : Hp) (C : Addr) (cl : List (Str × Addr)) (fp : List Addr), PDG (X.blk s H scope (compEnvC scope cl C X.env) fp) tg g dg is) (his : ∀ j ∈ is, j ∈ vs)
    (ht : ∀ (s : Shared) (H : Hp) (C : Addr) (cl : List (Str × Addr)) (fp : List Addr), PDTs (X.blk s H scope (compEnvC scope cl C X.env) fp) W0 ifs dt)
    (he : ∀ (s : Shared) (H : Hp) (C : Addr) (cl : List (Str × Addr)) (fp : List Addr), PD (X.blk s H scope (compEnvC scope cl C X.env) fp) W0 elt de) (hs : ∀ x, foldedSetIterable it X.env x = pure x := by intro _; rfl) :
    PDS X W (.Assign [.Name y py] (.ListComp elt [⟨tg, it, ifs, 0⟩] scope pos) spos) (dOwn (nLC di dg dt de vs) i) := by
  subst hv
  have mg := (hg X.s_0 X.H_0 0 [] []).mono
  have mt := (ht X.s_0 X.H_0 0 [] []).mono
  have me := (he X.s_0 X.H_0 0 [] []).mono
  have mn := mono_nLC (vs := own.map (·.2)) hi.mono mg mt me
  exact ⟨⟨fun le q => mn.go le.ex (fun c ρ q => le.nx _ q) q⟩, PS.imp (ps_setLc hc hN hy hyl hsw hi.run ok (fun s H C cl fp => (hg s H C cl fp).pg) (fun s H C cl fp => (ht s H C cl fp).run) (fun s H C cl fp => (he s H C cl fp).run) hs)
    fun D σ H ⟨B, F, ρ, S, q⟩ => lcT (Xb := X.blk X.s_0 X.H_0 scope (compEnvC scope [] 0 X.env) []) rfl hi.mono (hg _ _ _ _ _) mt me his
      (liftN.ofS mn S q fun d ρ1 q v F1 H1 e1 S1 r1 => q F1 _ H1 e1 (S1.set_ow' r1))⟩
end
end DL
set_option Elab.async false
set_option linter.all false
set_option maxRecDepth 100000
set_option maxHeartbeats 1000000
/-! DL12: owned lists and dicts: what is read and written in place. -/
namespace DL
open PySem L2 Evl
def owC : Sl → (Bool → Ct → Prop) → Prop
  | .ow b c, k => k b c
  | _, _ => False
theorem owC.eq {s : Sl} {k : Bool → Ct → Prop} (h : owC s k) : ∃ b c, s = .ow b c ∧ k b c := by
  cases s with
  | un => exact h.elim
  | fz d => exact h.elim
  | ow b c => exact ⟨_, _, rfl, h⟩
theorem owC.mono {s : Sl} {k k' : Bool → Ct → Prop} (hk : ∀ b c, k b c → k' b c) (h : owC s k) : owC s k' := by
  cases s with
  | un => exact h.elim
  | fz d => exact h.elim
  | ow b c => exact hk _ _ h
def owL : Sl → (Bool → List D → Prop) → Prop
  | .ow b (.lst ds), k => k b ds
  | _, _ => False
theorem owL.eq {s : Sl} {k : Bool → List D → Prop} (h : owL s k) : ∃ b c, s = .ow b (.lst c) ∧ k b c := by
  cases s with
  | un => exact h.elim
  | fz d => exact h.elim
  | ow b c => cases c <;> first | exact ⟨_, _, rfl, h⟩ | exact h.elim
theorem owL.mono {s : Sl} {k k' : Bool → List D → Prop} (hk : ∀ b c, k b c → k' b c) (h : owL s k) : owL s k' := by
  obtain ⟨b, c, e, h⟩ := h.eq
  subst e
  exact hk _ _ h
section
variable {X : Cx} {W : WX} {a b c e : Expr} {da db de : DE} {dt : DT} {dn : NE} {pos p : Pos}
/-- a name read as a value: what it owned is frozen from here on -/
def eVarF (i : Nat) : DE := fun ρ _ K => match gt ρ i with
  | .fz d => K d ρ
  | .ow false c => K c.d (ρ.set i (.fz c.d))
  | _ => False
theorem pd_varF (i : Nat) {x : Str} (hN : X.N[i]? = some x := by rfl) (hv : Vis X.env.scope x := by first | exact Or.inl rfl | exact Or.inr (Or.inl rfl) | exact Or.inr (Or.inr rfl)) (hd : (x == ("__debug__" : Str)) = false := by decide)
    (hcd : (x == ("__classdict__" : Str)) = false := by decide) : PD X W (.Name x pos) (eVarF i) := by
  refine ⟨⟨fun {ρ} _ _ _ _ hx hk h => ?_⟩, PE.imp (pe_var hN hv hd hcd) fun σ H Q ⟨B, F, ρ, S, h⟩ => ?_⟩
  · unfold eVarF at h ⊢
    cases hs : gt ρ i with
    | un => rw [hs] at h; exact h.elim
    | fz d => rw [hs] at h; exact hk _ _ h
    | ow b c =>
      rw [hs] at h
      cases b with
      | true => exact h.elim
      | false => exact hk _ _ h
  · unfold eVarF at h
    cases hs : gt ρ i with
    | un => rw [hs] at h; exact h.elim
    | fz d =>
      rw [hs] at h
      obtain ⟨v, e1, r⟩ := S.fz hs
      exact ⟨v, e1, h v F H (Ex.refl _) S r⟩
    | ow b c =>
      rw [hs] at h
      cases b with
      | true => exact h.elim
      | false =>
        obtain ⟨v, F', e1, e2, r, S'⟩ := S.freezeSlot hs
        exact ⟨v, e1, h v F' H e2 S' r⟩
/-! lists -/
def dApp (i : Nat) (de : DE) : DS := fun ρ P => owL (gt ρ i) fun _ _ => de ρ P.ex fun y ρ1 => owL (gt ρ1 i) fun b ds => ds.length ≤ 1000000 ∧ P.nx (ρ1.set i (.ow b (.lst (ds ++ [y]))))
theorem pds_app (i : Nat) {x : Str} {apos cpos : Pos} (he : PD X W e de) (hN : X.N[i]? = some x := by rfl) (hv : Vis X.env.scope x := by first | exact Or.inl rfl | exact Or.inr (Or.inl rfl) | exact Or.inr (Or.inr rfl)) (hd : (x == ("__debug__" : Str)) = false := by decide)
    (hcd : (x == ("__classdict__" : Str)) = false := by decide) (hbase : attributeBase (.Name x p) ("append" : Str) X.env (eval (.Name x p) X.env) = eval (.Name x p) X.env := by rfl)
    (hfew : ((backTo cpos (starEach [e] X.env)).all (fun x => !x.1) && (backToKw cpos (keywordEach [] X.env)).all (fun x => x.1.isSome)
      && decide (([e]).length + ([] : List Keyword).length + (if ([] : List Keyword).isEmpty then 0 else 1) < 30)) = true := by rfl)
    (hline : (apos.endLine == cpos.line) = true := by rfl) (hse : starEach [e] X.env = (false, eval e X.env) :: starEach [] X.env := by rfl) (hplain : (backTo cpos (starEach [] X.env)).any (·.1) = false := by rfl)
    (hs : swapsWith (.Call (.Attribute (.Name x p) ("append" : Str) apos) [e] [] cpos) none pos.line X.env = pure false := by rfl) : PDS X W (.Expr (.Call (.Attribute (.Name x p) ("append" : Str) apos) [e] [] cpos) pos) (dApp i de) := by
  refine ⟨⟨fun le q => owL.mono (fun _ _ q => he.mono.go le.ex (fun y ρ q => owL.mono (fun b ds q => ⟨q.1, le.nx _ q.2⟩) q) q) q⟩, PS.imp (ps_expr (pe_bm PySem.F.plainAttrs_list PySem.F.slot_list_append PySem.F.type_list_append mt_append (pe_var (i := i) hN hv hd hcd) (pa_cons he.run pa_nil hse) hbase hfew hline hse hplain) hs) fun En σ H ⟨B, F, ρ, S, h⟩ => ?_⟩
  obtain ⟨b0, c0, e0, h⟩ := h.eq
  obtain ⟨q0, vs0, e1, hq0, _⟩ := S.lstAt e0
  refine ⟨_, e1, .inl ⟨rfl, _, .inl (.inl hq0)⟩, liftE.ofS he.mono S h fun y ρ1 h v F1 H1 x1 S1 r1 => ?_⟩
  obtain ⟨b2, ds, e2, hz, h⟩ := h.eq
  obtain ⟨q2, vs, e3, hq2, r⟩ := S1.lstAt e2
  rw [e1] at e3
  have : q0 = q2 := by simpa using e3
  subst this
  refine ⟨_, vs, v, rfl, rfl, hq2, ?_, h F1 σ _ x1 (S1.write e2 e1 ⟨_, rfl, r.append (.cons r1 .nil)⟩)⟩
  rw [r.length, sizeLine_eq]
  exact Nat.lt_of_le_of_lt hz (by decide)
def ePop (i : Nat) : DE := fun ρ _ K => owL (gt ρ i) fun b ds => ∃ d, ds[ds.length - 1]? = some d ∧ K d (ρ.set i (.ow b (.lst ds.dropLast)))
theorem pd_pop (i : Nat) {x : Str} {apos cpos : Pos} (hN : X.N[i]? = some x := by rfl) (hv : Vis X.env.scope x := by first | exact Or.inl rfl | exact Or.inr (Or.inl rfl) | exact Or.inr (Or.inr rfl)) (hd : (x == ("__debug__" : Str)) = false := by decide)
    (hcd : (x == ("__classdict__" : Str)) = false := by decide) (hbase : attributeBase (.Name x p) ("pop" : Str) X.env (eval (.Name x p) X.env) = eval (.Name x p) X.env := by rfl) (hline : (apos.endLine == cpos.line) = true := by rfl) :
    PD X W (.Call (.Attribute (.Name x p) ("pop" : Str) apos) [] [] cpos) (ePop i) := by
  refine ⟨⟨fun hx hk h => owL.mono (fun b ds ⟨d, h1, h2⟩ => ⟨d, h1, hk _ _ h2⟩) h⟩, PE.imp (pe_bm0 PySem.F.plainAttrs_list PySem.F.slot_list_pop PySem.F.type_list_pop mt_pop (pe_var (i := i) hN hv hd hcd) hbase hline) fun σ H Q ⟨B, F, ρ, S, h⟩ => ?_⟩
  obtain ⟨b, ds, e, d, h1, h⟩ := h.eq
  obtain ⟨q, vs, e1, hq, r⟩ := S.lstAt e
  obtain ⟨u, hu, ru⟩ := r.get_some h1
  refine ⟨_, e1, .inl ⟨rfl, _, .inl (.inl hq)⟩, _, vs, u, rfl, rfl, hq, by rw [r.length]; exact hu, h u F _ (Ex.refl _) (S.write e e1 ⟨_, rfl, ?_⟩) ru⟩
  rw [List.dropLast_eq_take, List.dropLast_eq_take, r.length]
  exact r.take _
end
/-! dicts -/
def D.key : D → Option Key
  | .int n => some (.inl n)
  | .str x => some (.inr x)
  | _ => Option.none
def keysOf : List D → Option (List Key)
  | [] => some []
  | x :: xs => match x.key, keysOf xs with
    | some k, some ks => some (k :: ks)
    | _, _ => Option.none
def D.keys : D → Option (List Key)
  | .tuple xs => keysOf xs
  | _ => Option.none
def dVal {κ : Type} [DecidableEq κ] (kvs : List (κ × D)) (k : κ) : Option D := (kvs.find? fun kv => decide (kv.1 = k)).map (·.2)
def dPut {κ : Type} [DecidableEq κ] (kvs : List (κ × D)) (k : κ) (v : D) : List (κ × D) :=
  if (kvs.any fun kv => decide (kv.1 = k)) = true then kvs.map (fun kv => if kv.1 = k then (kv.1, v) else kv) else kvs ++ [(k, v)]
def dget : D → D → Option (Option D)
  | .dict kvs, k => k.key.map (dVal kvs)
  | .dictT kvs, k => k.keys.map (dVal kvs)
  | _, _ => Option.none
def ctPut : Ct → D → D → Option Ct
  | .lst ds, .int n, y => (ixN ds.length n).map fun j => .lst (ds.set j y)
  | .dct kvs, k, y => if kvs.length ≤ 1000000 then k.key.map fun k => .dct (dPut kvs k y) else Option.none
  | .dctT kvs, k, y => if kvs.length ≤ 1000000 then k.keys.map fun k => .dctT (dPut kvs k y) else Option.none
  | _, _, _ => Option.none
section
variable {K : PySem.W.Frag} {F F' H : Hp} {κ : Type} [DecidableEq κ]
theorem KReps.val {k : κ} : ∀ {ws : List (κ × V)} {kvs : List (κ × D)}, KReps K F ws kvs → (dVal kvs k = none → valV ws k = none) ∧ ∀ d, dVal kvs k = some d → ∃ v, valV ws k = some v ∧ Rep K F v d
  | [], [], .nil => ⟨fun _ => rfl, fun d h => by simp [dVal] at h⟩
  | (k1, v) :: ws, (_, d) :: kvs, .cons r t => by
    by_cases q : k1 = k
    · rw [valV_pos (p := (k1, v)) q]
      have : dVal ((k1, d) :: kvs) k = some d := by simp [dVal, List.find?_cons, q]
      rw [this]
      refine ⟨fun h => (nomatch h), fun d' h => ?_⟩
      obtain rfl : d = d' := by simpa using h
      exact ⟨v, rfl, r⟩
    · rw [valV_neg (p := (k1, v)) q]
      have : dVal ((k1, d) :: kvs) k = dVal kvs k := by simp [dVal, List.find?_cons, q]
      rw [this]
      exact KReps.val t
theorem KReps.any {k : κ} : ∀ {ws : List (κ × V)} {kvs : List (κ × D)}, KReps K F ws kvs → (ws.any fun kv => decide (kv.1 = k)) = (kvs.any fun kv => decide (kv.1 = k))
  | [], [], .nil => rfl
  | (k1, v) :: ws, (_, d) :: kvs, .cons r t => by simp [KReps.any t]
theorem KReps.mapPut {k : κ} {v : V} {d : D} (rv : Rep K F v d) : ∀ {ws : List (κ × V)} {kvs : List (κ × D)}, KReps K F ws kvs → KReps K F (ws.map (fun kv => if kv.1 = k then (kv.1, v) else kv)) (kvs.map (fun kv => if kv.1 = k then (kv.1, d) else kv))
  | [], [], .nil => .nil
  | (k1, v1) :: ws, (_, d1) :: kvs, .cons r t => by
    rw [List.map_cons, List.map_cons]
    by_cases q : k1 = k
    · rw [if_pos q, if_pos q]; exact .cons rv (KReps.mapPut rv t)
    · rw [if_neg q, if_neg q]; exact .cons r (KReps.mapPut rv t)
theorem KReps.app : ∀ {ws : List (κ × V)} {kvs : List (κ × D)} {ws' : List (κ × V)} {kvs' : List (κ × D)}, KReps K F ws kvs → KReps K F ws' kvs' → KReps K F (ws ++ ws') (kvs ++ kvs')
  | [], [], _, _, .nil, h => h
  | (k1, v1) :: ws, (_, d1) :: kvs, _, _, .cons r t, h => .cons r (KReps.app t h)
theorem KReps.put {k : κ} {v : V} {d : D} {ws : List (κ × V)} {kvs : List (κ × D)} (h : KReps K F ws kvs) (rv : Rep K F v d) : KReps K F (putK ws k v) (dPut kvs k d) := by
  unfold putK dPut
  rw [h.any]
  by_cases q : (kvs.any fun kv => decide (kv.1 = k)) = true
  · rw [if_pos q, if_pos q]; exact KReps.mapPut rv h
  · rw [if_neg q, if_neg q]; exact h.app (.cons rv .nil)
theorem key_rep {v : V} {d : D} {k : Key} (r : Rep K F v d) (h : d.key = some k) : v = kV k := by
  cases d with
  | int n => cases h; cases r.int_inv; rfl
  | str x => cases h; cases r.str_inv; rfl
  | _ => cases h
theorem keysOf_rep : ∀ {vs : List V} {ds : List D} {ks : List Key}, Reps K F vs ds → keysOf ds = some ks → vs = ks.map kV
  | _, _, ks, .nil, h => by cases h; rfl
  | _, _, ks, .cons (ds := ds) (d := d) r t, h => by
    unfold keysOf at h
    cases h1 : d.key with
    | none => rw [h1] at h; cases h
    | some k =>
      cases h2 : keysOf ds with
      | none => rw [h1, h2] at h; cases h
      | some ks' =>
        rw [h1, h2] at h
        cases h
        rw [key_rep r h1, keysOf_rep t h2]; rfl
theorem keys_rep {v : V} {d : D} {ks : List Key} (r : Rep K F v d) (h : d.keys = some ks) : ∃ b, v = .ref b ∧ F b = some (.tup (ks.map kV)) := by
  cases d with
  | tuple xs =>
    obtain ⟨b, vs, rfl, hb, r⟩ := r.tuple_inv2
    exact ⟨b, rfl, by rw [hb, keysOf_rep r h]⟩
  | _ => cases h
/-- what a dict's object gives -/
theorem dget_ct {H : Hp} {a : Addr} {o : HO} {c : Ct} {y : V} {k : D} {od : Option D} (e : ExL F H) (ho : Rd H a o) (hc : CtR K F a o c) (ry : Rep K F y k) (h : dget c.d k = some od) :
    ∃ ov, DGet H a y ov ∧ ov.isSome = od.isSome ∧ ∀ d, od = some d → ∃ v, ov = some v ∧ Rep K F v d := by
  have fin : ∀ {κ : Type} [DecidableEq κ] {ws : List (κ × V)} {kvs : List (κ × D)} {k : κ}, KReps K F ws kvs → dVal kvs k = od → (valV ws k).isSome = od.isSome ∧ ∀ d, od = some d → ∃ v, valV ws k = some v ∧ Rep K F v d := fun {κ _ ws kvs k} r e => by
    obtain ⟨h1, h2⟩ := r.val (k := k)
    subst e
    cases q : dVal kvs k with
    | none => rw [h1 q]; exact ⟨rfl, fun d z => by cases z⟩
    | some d =>
      obtain ⟨v, e2, r2⟩ := h2 d q
      rw [e2]
      exact ⟨rfl, fun d z => by cases z; exact ⟨v, rfl, r2⟩⟩
  cases c with
  | lst ds => cases h
  | ins C lay xs => cases h
  | dctN kvs => cases h
  | dct kvs =>
    obtain ⟨ws, rfl, r⟩ := hc
    cases hk : k.key with
    | none => simp [dget, Ct.d, hk] at h
    | some kk =>
      have h : dVal kvs kk = od := by simpa [dget, Ct.d, hk] using h
      rw [key_rep ry hk]
      exact ⟨_, .inl ⟨_, _, ho, rfl, rfl⟩, fin r h⟩
  | dctT kvs =>
    obtain ⟨ws, rfl, r⟩ := hc
    cases hk : k.keys with
    | none => simp [dget, Ct.d, hk] at h
    | some kk =>
      have h : dVal kvs kk = od := by simpa [dget, Ct.d, hk] using h
      obtain ⟨b, rfl, hb⟩ := keys_rep ry hk
      exact ⟨_, .inr ⟨_, _, b, ho, rfl, e.on hb, rfl⟩, fin r h⟩
/-- a frozen dict is such an object -/
theorem dict_ct {a : V} {d k : D} {od : Option D} (r : Rep K F a d) (h : dget d k = some od) : ∃ p o c, a = .ref p ∧ F p = some o ∧ CtR K F p o c ∧ c.d = d := by
  cases d with
  | dict kvs => obtain ⟨p, ws, rfl, hp, r⟩ := r.dict_inv; exact ⟨p, _, .dct kvs, rfl, hp, ⟨ws, rfl, r⟩, rfl⟩
  | dictT kvs => obtain ⟨p, ws, rfl, hp, r⟩ := r.dictT_inv; exact ⟨p, _, .dctT kvs, rfl, hp, ⟨ws, rfl, r⟩, rfl⟩
  | _ => cases h
end
def rPutD : V → V → V → Hp → (Hp → Prop) → Prop := fun o i v H Q => ∃ a H', o = .ref a ∧ DPut H a i v H' ∧ Q H'
def rPut : V → V → V → Hp → (Hp → Prop) → Prop := fun o i v H Q => rSetL o i v H Q ∨ rPutD o i v H Q
theorem set_put {X : Cx} (hu : X.A.units + 1 < cLine) : PSet X rPut := by
  intro pins s σ H o i v ov iv u Q I ro ri rv h
  rcases h with h | ⟨a, H', rfl, g, q⟩
  · exact set_list pins s σ H o i v ov iv u Q I ro ri rv h
  · obtain rfl : ov = Value.ref a := ro
    exact d_setItem hu I g ri rv fun s4 I4 => ⟨H', I4, q⟩
section
variable {X : Cx} {W : WX} {a b c e : Expr} {da db de : DE} {dt : DT} {dn : NE} {pos p : Pos}
def ofPut : Option Ct → (Ct → Prop) → Prop
  | some c, k => k c
  | none, _ => False
theorem ofPut.mono {o : Option Ct} {k k' : Ct → Prop} (hk : ∀ c, k c → k' c) (h : ofPut o k) : ofPut o k' := by
  cases o with
  | none => exact h
  | some c' => exact hk _ h
/-- slot[k] = .. , the slot's own list or dict -/
def dgSub (i : Nat) (dk : DE) : DG := fun y ρ k => isOw (gt ρ i) = true ∧ dk ρ X0 fun j ρ2 => owC (gt ρ2 i) fun b c => ofPut (ctPut c j y) fun c' => k (ρ2.set i (.ow b c'))
theorem pdg_sub {k : Nat} (i : Nat) {x : Str} (hr : Room k X.A) (hi : PD X W0 e de) (hN : X.N[i]? = some x := by rfl) (hv : Vis X.env.scope x := by first | exact Or.inl rfl | exact Or.inr (Or.inl rfl) | exact Or.inr (Or.inr rfl)) (hd : (x == ("__debug__" : Str)) = false := by decide)
    (hcd : (x == ("__classdict__" : Str)) = false := by decide) (ha : ∀ v, assign (.Subscript (.Name x p) e pos) X.env v = (do
      let ov ← holding [v] (eval (.Name x p) X.env)
      let iv ← holding [v, ov] (eval e X.env)
      standAt pos
      holding [v, ov, iv] (setItem ov iv v)
      release [v, ov, iv] []) := by intro _; rfl) :
    PDG X (.Subscript (.Name x p) e pos) (gSub (tVar i) (liftE X.K W0 de) rPut) (dgSub i de) [] := by
  refine ⟨⟨fun hk h => ⟨h.1, hi.mono.go (fun _ _ h => h) (fun j ρ h => owC.mono (fun b c h => ofPut.mono (fun c' h => hk _ h) h) h) h.2⟩⟩, pg_sub (pe_var (i := i) hN hv hd hcd) hi.run (set_put (hu_of hr)) ha, fun {B F ρ σ H v d k Q} S r h hQ => ?_⟩
  · obtain ⟨h0, h⟩ := h
    obtain ⟨q0, e0⟩ := S.isOw_ref h0
    refine ⟨_, e0, liftE.of hi.mono (Ex.refl _) S (hi.mono.go (fun _ _ h => h.elim) (fun _ _ h => h) h) fun j ρ2 h y F1 H1 e1 S1 r1 => ?_⟩
    obtain ⟨b, c, es, h⟩ := h.eq
    obtain ⟨a, ea, ⟨nf, ng, o, ho, hc⟩, _⟩ := S1.ow es
    rw [e0] at ea
    have : q0 = a := by simpa using ea
    subst this
    have rv := r.mono e1
    cases hp : ctPut c j d with
    | none => rw [hp] at h; exact h.elim
    | some c' =>
      rw [hp] at h
      have fin : ∀ o', CtR X.K F1 q0 o' c' → Q σ (upd H1 q0 o') := fun o' r' => hQ _ h F1 σ _ e1 rfl (fun _ _ => rfl) (S1.write es e0 r')
      have big : ∀ {n : Nat}, n ≤ 1000000 → n < sizeLine := fun h => by rw [sizeLine_eq]; exact Nat.lt_of_le_of_lt h (by decide)
      cases c with
      | ins C lay xs => cases hp
      | dctN kvs => cases hp
      | lst ds =>
        obtain ⟨vs, rfl, r2⟩ := hc
        cases j with
        | int n =>
          cases hx : ixN ds.length n with
          | none => simp [ctPut, hx] at hp
          | some m =>
            have hp : Ct.lst (ds.set m d) = c' := by simpa [ctPut, hx] using hp
            subst hp
            cases r1.int_inv
            exact .inl ⟨q0, vs, n, m, rfl, rfl, ho, by rw [r2.length]; exact hx, fin _ ⟨_, rfl, r2.set rv _⟩⟩
        | _ => cases hp
      | dct kvs =>
        obtain ⟨ws, rfl, r2⟩ := hc
        cases hk : j.key with
        | none => simp [ctPut, hk] at hp
        | some kk =>
          by_cases hz : kvs.length ≤ 1000000
          · have hp : Ct.dct (dPut kvs kk d) = c' := by simpa [ctPut, hk, hz] using hp
            subst hp
            rw [key_rep r1 hk]
            exact .inr ⟨q0, _, rfl, DPut.k ho (by rw [r2.length]; exact big hz), fin _ ⟨_, rfl, r2.put rv⟩⟩
          · simp [ctPut, hz] at hp
      | dctT kvs =>
        obtain ⟨ws, rfl, r2⟩ := hc
        cases hk : j.keys with
        | none => simp [ctPut, hk] at hp
        | some kk =>
          by_cases hz : kvs.length ≤ 1000000
          · have hp : Ct.dctT (dPut kvs kk d) = c' := by simpa [ctPut, hk, hz] using hp
            subst hp
            obtain ⟨b2, rfl, hb⟩ := keys_rep r1 hk
            exact .inr ⟨q0, _, rfl, DPut.t ho (S1.ex.on hb) (by rw [r2.length]; exact big hz), fin _ ⟨_, rfl, r2.put rv⟩⟩
          · simp [ctPut, hz] at hp
end
end DL
set_option Elab.async false
set_option linter.all false
set_option maxRecDepth 100000
set_option maxHeartbeats 1000000
/-! DL13: dicts read; len of a slot. -/
namespace DL
open PySem L2 Evl
section
variable {X : Cx} {W : WX} {a b c e o : Expr} {da db de dk dd : DE} {dt : DT} {dn : NE} {pos p : Pos}
/-- d[k], the slot's own dict -/
def eGetS (i : Nat) (dk : DE) : DE := fun ρ X K => isOw (gt ρ i) = true ∧ dk ρ X fun k ρ1 => owC (gt ρ1 i) fun _ c => ∃ d, dget c.d k = some (some d) ∧ K d ρ1
theorem mono_eGetS {i : Nat} (m : MonoE dk) : MonoE (eGetS i dk) := ⟨fun hx hk h => ⟨h.1, m.go hx (fun k ρ h => owC.mono (fun b c ⟨d, h1, h2⟩ => ⟨d, h1, hk _ _ h2⟩) h) h.2⟩⟩
theorem pd_getS {k : Nat} (i : Nat) {x : Str} (hr : Room k X.A) (hb : PD X W b dk) (hs : NoSl b) (hN : X.N[i]? = some x := by rfl) (hv : Vis X.env.scope x := by first | exact Or.inl rfl | exact Or.inr (Or.inl rfl) | exact Or.inr (Or.inr rfl)) (hd : (x == ("__debug__" : Str)) = false := by decide)
    (hcd : (x == ("__classdict__" : Str)) = false := by decide) : PD X W (.Subscript (.Name x p) b pos) (eGetS i dk) := by
  refine ⟨mono_eGetS hb.mono, PE.imp (pe_dget (hu_of hr) (pe_var (i := i) hN hv hd hcd) hb.run hs) fun σ H Q ⟨B, F, ρ, S, h⟩ => ?_⟩
  obtain ⟨q0, e0⟩ := S.isOw_ref h.1
  refine ⟨_, e0, liftE.of hb.mono (Ex.refl _) S h.2 fun k ρ1 h v F1 H1 e1 S1 r1 => ?_⟩
  obtain ⟨b, c, es, d, h1, h⟩ := h.eq
  obtain ⟨a, ea, ⟨nf, ng, o, ho, hc⟩, _⟩ := S1.ow es
  rw [e0] at ea
  have : q0 = a := by simpa using ea
  subst this
  obtain ⟨ov, g, _, r⟩ := dget_ct S1.ex (.inl ho) hc r1 h1
  obtain ⟨u, rfl, ru⟩ := r d rfl
  exact ⟨q0, u, rfl, g, h u F1 H1 e1 S1 ru⟩
/-- d[k], a frozen dict -/
def eGet (dd dk : DE) : DE := fun ρ X K => dd ρ X fun c ρ1 => dk ρ1 X fun k ρ2 => ∃ d, dget c k = some (some d) ∧ K d ρ2
theorem mono_eGet (m1 : MonoE dd) (m : MonoE dk) : MonoE (eGet dd dk) := ⟨fun hx hk h => m1.go hx (fun c ρ h => m.go hx (fun k ρ ⟨d, h1, h2⟩ => ⟨d, h1, hk _ _ h2⟩) h) h⟩
theorem pd_get {k : Nat} (hr : Room k X.A) (ha : PD X W a dd) (hb : PD X W b dk) (hs : NoSl b) : PD X W (.Subscript a b pos) (eGet dd dk) := by
  refine ⟨mono_eGet ha.mono hb.mono, PE.imp (pe_dget (hu_of hr) ha.run hb.run hs) fun σ H Q ⟨B, F, ρ, S, h⟩ => ?_⟩
  refine liftE.of ha.mono (Ex.refl _) S h fun c ρ0 h v0 F0 H0 e0 S0 r0 => liftE.of hb.mono e0 S0 h fun k ρ1 h v F1 H1 e1 S1 r1 => ?_
  obtain ⟨d, h1, h3⟩ := h
  obtain ⟨q, o, ct, rfl, hq, hc, rfl⟩ := dict_ct (r0.mono e1) h1
  obtain ⟨ov, g, _, r⟩ := dget_ct S1.ex (S1.ex.rd hq) hc r1 h1
  obtain ⟨u, rfl, ru⟩ := r d rfl
  exact ⟨q, u, rfl, g, h3 u F1 H1 (e0.trans e1) S1 ru⟩
/-- k in d -/
def tInS (neg : Bool) (i : Nat) (dk : DE) : DT := fun ρ X K => dk ρ X fun k ρ1 => owC (gt ρ1 i) fun _ c => ∃ o, dget c.d k = some o ∧ K (if neg then !o.isSome else o.isSome) ρ1
def tIn (neg : Bool) (dk dd : DE) : DT := fun ρ X K => dk ρ X fun k ρ1 => dd ρ1 X fun c ρ2 => ∃ o, dget c k = some o ∧ K (if neg then !o.isSome else o.isSome) ρ2
theorem mono_tInS {n : Bool} {i : Nat} (m : MonoE dk) : MonoT (tInS n i dk) := ⟨fun hx hk h => m.go hx (fun k ρ h => owC.mono (fun b c ⟨d, h1, h2⟩ => ⟨d, h1, hk _ _ h2⟩) h) h⟩
theorem mono_tIn {n : Bool} (m1 : MonoE dk) (m : MonoE dd) : MonoT (tIn n dk dd) := ⟨fun hx hk h => m1.go hx (fun c ρ h => m.go hx (fun k ρ ⟨d, h1, h2⟩ => ⟨d, h1, hk _ _ h2⟩) h) h⟩
theorem inS_go {n : Bool} {i : Nat} {σ : L2.St} {H : Hp} {Q : Bool → Hp → Prop} (hb : PD X W b dk) (h : liftT X.K W (tInS n i dk) σ H Q) : liftE X.K W dk σ H fun y H1 => tVar i σ H1 fun x H2 => ∃ a ov, x = .ref a ∧ DGet H2 a y ov ∧ Q (if n then !ov.isSome else ov.isSome) H2 := by
  obtain ⟨B, F, ρ, S, h⟩ := h
  refine liftE.of hb.mono (Ex.refl _) S h fun k ρ1 h v F1 H1 e1 S1 r1 => ?_
  obtain ⟨b, c, es, od, h1, h⟩ := h.eq
  obtain ⟨a, ea, ⟨nf, ng, o, ho, hc⟩, _⟩ := S1.ow es
  obtain ⟨ov, g, hi, r⟩ := dget_ct S1.ex (.inl ho) hc r1 h1
  exact ⟨_, ea, a, ov, rfl, g, by rw [hi]; exact h F1 H1 e1 S1⟩
theorem in_go {n : Bool} {σ : L2.St} {H : Hp} {Q : Bool → Hp → Prop} (ha : PD X W a dd) (hb : PD X W b dk) (h : liftT X.K W (tIn n dk dd) σ H Q) : liftE X.K W dk σ H fun y H1 => liftE X.K W dd σ H1 fun x H2 => ∃ a ov, x = .ref a ∧ DGet H2 a y ov ∧ Q (if n then !ov.isSome else ov.isSome) H2 := by
  obtain ⟨B, F, ρ, S, h⟩ := h
  refine liftE.of hb.mono (Ex.refl _) S h fun k ρ1 h v F1 H1 e1 S1 r1 => liftE.of ha.mono e1 S1 h fun c ρ2 h v2 F2 H2 e2 S2 r2 => ?_
  obtain ⟨od, h1, h⟩ := h
  obtain ⟨q, o, ct, rfl, hq, hc, rfl⟩ := dict_ct r2 h1
  obtain ⟨ov, g, hi, r⟩ := dget_ct S2.ex (S2.ex.rd hq) hc (r1.mono e2) h1
  exact ⟨q, ov, rfl, g, by rw [hi]; exact h F2 H2 (e1.trans e2) S2⟩
theorem pdt_inS {k : Nat} (i : Nat) {x : Str} (hr : Room k X.A) (hb : PD X W b dk) (hN : X.N[i]? = some x := by rfl) (hv : Vis X.env.scope x := by first | exact Or.inl rfl | exact Or.inr (Or.inl rfl) | exact Or.inr (Or.inr rfl)) (hd : (x == ("__debug__" : Str)) = false := by decide)
    (hcd : (x == ("__classdict__" : Str)) = false := by decide) (h1 : behindInMarks .In (.Name x p) = false := by first | exact nobehind _ (by decide) (by decide) | rfl) : PDT X W (.Compare b [.In] [.Name x p] pos) (tInS false i dk) :=
  ⟨mono_tInS hb.mono, PT.imp (pt_cmp (pc_din (hu_of hr) hb.run (pe_var (i := i) hN hv hd hcd)) h1) fun σ H Q h => by
    obtain ⟨B, F, ρ, S, q⟩ := inS_go (n := false) hb h
    refine ⟨B, F, ρ, S, hb.mono.go (fun _ _ h => h) (fun k ρ' h v F' H' e' S' r' => ?_) q⟩
    obtain ⟨x, hx, a, ov, e2, g, q⟩ := h v F' H' e' S' r'
    exact ⟨x, hx, a, ov, e2, g, ⟨_, rfl, q⟩⟩⟩
theorem pdt_notinS {k : Nat} (i : Nat) {x : Str} (hr : Room k X.A) (hb : PD X W b dk) (hN : X.N[i]? = some x := by rfl) (hv : Vis X.env.scope x := by first | exact Or.inl rfl | exact Or.inr (Or.inl rfl) | exact Or.inr (Or.inr rfl)) (hd : (x == ("__debug__" : Str)) = false := by decide)
    (hcd : (x == ("__classdict__" : Str)) = false := by decide) (h1 : behindInMarks .NotIn (.Name x p) = false := by first | exact nobehind _ (by decide) (by decide) | rfl) : PDT X W (.Compare b [.NotIn] [.Name x p] pos) (tInS true i dk) :=
  ⟨mono_tInS hb.mono, PT.imp (pt_cmp (pc_dnotin (hu_of hr) hb.run (pe_var (i := i) hN hv hd hcd)) h1) fun σ H Q h => by
    obtain ⟨B, F, ρ, S, q⟩ := inS_go (n := true) hb h
    refine ⟨B, F, ρ, S, hb.mono.go (fun _ _ h => h) (fun k ρ' h v F' H' e' S' r' => ?_) q⟩
    obtain ⟨x, hx, a, ov, e2, g, q⟩ := h v F' H' e' S' r'
    exact ⟨x, hx, a, ov, e2, g, ⟨_, rfl, q⟩⟩⟩
theorem pdt_in {k : Nat} (hr : Room k X.A) (hb : PD X W b dk) (ha : PD X W a dd) (h1 : behindInMarks .In a = false := by first | exact nobehind _ (by decide) (by decide) | rfl) : PDT X W (.Compare b [.In] [a] pos) (tIn false dk dd) :=
  ⟨mono_tIn hb.mono ha.mono, PT.imp (pt_cmp (pc_din (hu_of hr) hb.run ha.run) h1) fun σ H Q h => by
    obtain ⟨B, F, ρ, S, q⟩ := in_go (n := false) ha hb h
    refine ⟨B, F, ρ, S, hb.mono.go (fun _ _ h => h) (fun k ρ' h v F' H' e' S' r' => ?_) q⟩
    obtain ⟨B2, F2, ρ2, S2, q2⟩ := h v F' H' e' S' r'
    refine ⟨B2, F2, ρ2, S2, ha.mono.go (fun _ _ h => h) (fun k ρ' h v F' H' e' S' r' => ?_) q2⟩
    obtain ⟨a, ov, e2, g, q⟩ := h v F' H' e' S' r'
    exact ⟨a, ov, e2, g, ⟨_, rfl, q⟩⟩⟩
theorem pdt_notin {k : Nat} (hr : Room k X.A) (hb : PD X W b dk) (ha : PD X W a dd) (h1 : behindInMarks .NotIn a = false := by first | exact nobehind _ (by decide) (by decide) | rfl) : PDT X W (.Compare b [.NotIn] [a] pos) (tIn true dk dd) :=
  ⟨mono_tIn hb.mono ha.mono, PT.imp (pt_cmp (pc_dnotin (hu_of hr) hb.run ha.run) h1) fun σ H Q h => by
    obtain ⟨B, F, ρ, S, q⟩ := in_go (n := true) ha hb h
    refine ⟨B, F, ρ, S, hb.mono.go (fun _ _ h => h) (fun k ρ' h v F' H' e' S' r' => ?_) q⟩
    obtain ⟨B2, F2, ρ2, S2, q2⟩ := h v F' H' e' S' r'
    refine ⟨B2, F2, ρ2, S2, ha.mono.go (fun _ _ h => h) (fun k ρ' h v F' H' e' S' r' => ?_) q2⟩
    obtain ⟨a, ov, e2, g, q⟩ := h v F' H' e' S' r'
    exact ⟨a, ov, e2, g, ⟨_, rfl, q⟩⟩⟩
/-- len of the slot's own list -/
def eLenS (i : Nat) : DE := fun ρ _ K => owL (gt ρ i) fun _ ds => ds.length ≤ 1000000 ∧ K (.int ds.length) ρ
theorem pd_lenS (i : Nat) {x : Str} {p2 : Pos} (hg : Gl X "len") (hm : X.mg "len" = none) (hN : X.N[i]? = some x := by rfl) (hv : Vis X.env.scope x := by first | exact Or.inl rfl | exact Or.inr (Or.inl rfl) | exact Or.inr (Or.inr rfl)) (hd : (x == ("__debug__" : Str)) = false := by decide)
    (hcd : (x == ("__classdict__" : Str)) = false := by decide) (hse : starEach [.Name x p2] X.env = (false, eval (.Name x p2) X.env) :: starEach [] X.env := by rfl) (hpl : (backTo pos (starEach [] X.env)).any (·.1) = false := by rfl) :
    PD X W (.Call (.Name "len" p) [.Name x p2] [] pos) (eLenS i) := by
  refine ⟨⟨fun hx hk h => owL.mono (fun b ds h => ⟨h.1, hk _ _ h.2⟩) h⟩, PE.imp (pe_callB call_len hg hm rfl (pa_cons (pe_var (i := i) hN hv hd hcd) pa_nil hse) (by decide) (by decide) hse hpl) fun σ H Q ⟨B, F, ρ, S, h⟩ => ?_⟩
  obtain ⟨b, ds, e, hz, h⟩ := h.eq
  obtain ⟨q, vs, e1, hq, r⟩ := S.lstAt e
  refine ⟨_, e1, _, ds.length, rfl, .inl ⟨vs, .inl (.inl hq), by rw [r.length]⟩, h _ F H (Ex.refl _) S (.int _)⟩
end
end DL
set_option Elab.async false
set_option linter.all false
set_option maxRecDepth 100000
set_option maxHeartbeats 1000000
/-! DL14: for .. in d.items(), the keys tuples. -/
namespace DL
open PySem L2 Evl PySem.Spec PyProof.Rows
section
variable {X : Cx} {pins : List (Addr × Obj)} {σ : L2.St} {H : Hp} {s : Shared} {d : Addr} {o : Obj}
theorem frzT2 {kvs : List (List Key × V)} (I : Inv X pins σ H s) (h : H d = some (.frz o (.dT kvs))) :
    (d == sysModules) = false ∧ s.heap.get? d = some o ∧ o.ExactDict ∧ ∃ (es : Array DictEntry) (ep : Nat), o.data = .dict es ep ∧ es.size = kvs.length ∧
      ∀ (i : Nat) (k : List Key) (v : V), kvs[i]? = some (k, v) → ∃ (en : DictEntry) (q : Addr), es[i]? = some en ∧ en.key = .ref q ∧ H q = some (.tup (k.map kV)) ∧ RelV v en.val := by
  obtain ⟨hd, z, hs, xs, pr, o', es, ep, ho, hx, hdt, he, _⟩ := I.hok d _ h
  rw [hd] at ho
  cases ho
  refine ⟨hs, hd, hx, es, ep, hdt, ?_, fun i k v e => ?_⟩
  · have l1 : es.size = xs.length := by rw [← Array.length_toList, he, List.length_map]
    have l2 : kvs.length = xs.length := Paired.length pr
    omega
  · obtain ⟨b, hb, e1, e2, e3⟩ := paired_get pr e
    have q := entry_at he i
    rw [hb] at q
    exact ⟨_, b.2.1, q, rfl, e2, e3⟩
/-- the pairs of the locked dict, each a new tuple of the key's own tuple and the value -/
def Itit (d : Addr) (o : Obj) (kvs : List (List Key × V)) : It :=
  ⟨fun i H => H d = some (.frz o (.dT kvs)) ∧ i < kvs.length, fun i H x H' => ∃ T k v q, kvs[i]? = some (k, v) ∧ x = .ref T ∧ H q = some (.tup (k.map kV)) ∧ H T = none ∧ H' = upd H T (.tup [.ref q, v]), fun i H => H d = some (.frz o (.dT kvs)) ∧ kvs.length ≤ i⟩
end
section
variable {P : Program} {w : World} {K : PySem.W.Frag} {d : Addr} {o : Obj} {es : Array DictEntry} {ep : Nat}
theorem turn_itemsT {kvs : List (List Key × V)} {elts : List Expr} {kk : Nat} {tpos : Pos} (it : Addr) (hod : o.data = .dict es ep) :
    Turn P w K (.Tuple elts kk tpos) (Itit d o kvs) [it] it (fun i h => ∃ ok ov, IsItemIter h it d i kvs.length ep ok ov) where
  mem := by simp
  obj := fun i h st b hb => by
    have e : b = it := by simpa using hb
    subst e
    obtain ⟨ok, ov, e⟩ := st
    exact ⟨_, e, fun v z => nomatch z⟩
  keep := fun i h h' st k => let ⟨ok, ov, e⟩ := st; ⟨ok, ov, k it (by simp) _ e⟩
  item := by
    intro X hP hw hK hc i pins s σ H E I hf st hg
    subst hP hw hK
    obtain ⟨hd, hi⟩ := hg
    obtain ⟨hs, hgd, hx, es', ep', hdt, hsz, ent⟩ := frzT2 I hd
    obtain ⟨rfl, rfl⟩ := dict_ep hod hdt
    obtain ⟨⟨k, v⟩, hkv⟩ : ∃ p, kvs[i]? = some p := ⟨kvs[i], List.getElem?_eq_getElem hi⟩
    obtain ⟨en, q, hen, hkey, hq, rv⟩ := ent i k v hkv
    obtain ⟨ok, ov, he⟩ := st
    rw [← hsz] at he
    have hlt : it < s.heap.objs.size := Heap.lt_size he
    have hie : i < es'.size := by rw [hsz]; exact hi
    have hen2 : es'[i] = en := by
      rw [Array.getElem?_eq_getElem hie] at hen
      simpa using hen
    refine wpAny_pyNext_items_item_raw he ⟨o, hgd, hx, hdt⟩ hie fun h' ho hT hz hk => ?_
    rw [hen2] at ho hT
    refine ⟨_, rfl, wpAny_letOwnedTupleGo_items (s := { s with heap := h' }) ho fun h'' he' sb => ?_⟩
    have hT2 : h''.get? s.heap.objs.size = some { cls := .type "tuple", data := .seq #[en.key, en.val] } := (sb.2 _ (Nat.ne_of_gt hlt)).trans hT
    have new : ObjOk X.prog X.w (upd H s.heap.objs.size (.tup [.ref q, v])) h'' s.heap.objs.size (.tup [.ref q, v]) :=
      ⟨by show 2 ≤ sizeLine; decide, [en.key, en.val], .cons hkey (.cons rv .nil), ⟨_, hT2, rfl, _, rfl⟩⟩
    have I1 : Inv X pins σ (upd H s.heap.objs.size (.tup [.ref q, v])) { s with heap := h'' } :=
      I.turnedNew (t' := s.toks) (ch := [it]) (fun b ob hb e => (sb.2 b (by simpa using hb)).trans (hk b ob (by simpa using hb) e)) hf (Nat.le_refl _) new
    refine ⟨.ref s.heap.objs.size, _, I1, rfl, ⟨_, k, v, q, hkv, rfl, hq, I.hok.fresh (Nat.le_refl _), rfl⟩, ⟨en.key, en.val, ?_⟩, fun b hb => ?_⟩
    · rw [← hsz]; exact he'
    · have e : b = it := by simpa using hb
      rw [e, upd_ne (Nat.ne_of_lt hlt)]
      exact (hf it (by simp)).1
  done := by
    intro X hP hw hK hc i pins s σ H E I hf st hg
    subst hP hw hK
    obtain ⟨hd, hi⟩ := hg
    obtain ⟨f0, f1, f2, f3, f4, f5⟩ := hf it (by simp)
    obtain ⟨hs, hgd, hx, es', ep', hdt, hsz, ent⟩ := frzT2 I hd
    obtain ⟨rfl, rfl⟩ := dict_ep hod hdt
    obtain ⟨ok, ov, he⟩ := st
    rw [← hsz] at he
    exact wpAny_pyNext_items_end_raw (I.ok.hd hc) he ⟨o, hgd, hx, hdt⟩ (by rw [hsz]; exact hi) fun h' eb => ⟨rfl, I.turned (t' := s.toks) (fun b ob hb e => eb b ob hb e) f0 f1 f3 f4 f5⟩
  self := fun A i s Q E st h => let ⟨_, _, e⟩ := st; PySem.W.kcp_self e h
end
/-- the keys ints and texts, or tuples of such -/
def iItemsB (td : TE) : TI := fun σ H R => td σ H fun x H1 => ∃ d o, x = .ref d ∧ ((∃ kvs, H1 d = some (.frz o (.dK kvs)) ∧ R (Iti d o kvs) H1) ∨ ∃ kvs, H1 d = some (.frz o (.dT kvs)) ∧ R (Itit d o kvs) H1)
section
variable {X : Cx} {e : Expr} {td : TE} {apos cpos : Pos}
theorem pi_itemsB {elts : List Expr} {kk : Nat} {tpos : Pos} (he : PE X e td) (hbase : attributeBase e "items" X.env (eval e X.env) = eval e X.env := by rfl) (hline : (apos.endLine == cpos.line) = true := by rfl) :
    PI X (.Tuple elts kk tpos) (.Call (.Attribute e "items" apos) [] [] cpos) (iItemsB td) := by
  refine ⟨fun pins s σ H R I h => ?_⟩
  refine wpAny_Call_method (T := "dict") (id := "dict.items") hbase rfl hline F.plainAttrs_dict F.slot_dict_items F.type_dict_items (thn (he.run pins s σ H _ I h) fun u s1 ⟨x, H1, I1, rx, d, o, ex, q⟩ => ?_)
  subst ex
  obtain rfl : u = Value.ref d := rx
  have fin : ∀ {es : Array DictEntry} {ep : Nat}, (d == sysModules) = false → s1.heap.get? d = some o → o.ExactDict → o.data = .dict es ep → (∀ I2 : Inv X pins σ H1 { s1 with heap := s1.heap.push { cls := .type "dict_items", data := .fields #[.ref d] } },
      PIE X pins σ (.Tuple elts kk tpos) R (.ref (s1.heap.push { cls := .type "dict_items", data := .fields #[.ref d] }).objs.size) { s1 with heap := (s1.heap.push { cls := .type "dict_items", data := .fields #[.ref d] }).push { cls := .type "dict_itemiterator", data := .fields #[.none, .bool false, .ref d, .int 0 0, .int es.size 0, .int ep 0, .none, .none] } }) →
      s1.TypeIs (.ref d) "dict" ∧ (∀ a, (Value.ref d) = .ref a → ∃ o, s1.heap.get? a = some o ∧ o.dict = none) ∧ wpAny (model X.prog X.w) X.A (callWith cpos (.builtin "dict.items") [.ref d] [] []) (fun x s' => wpAny (model X.prog X.w) X.A (pyIter x) (PIE X pins σ (.Tuple elts kk tpos) R) X.xe s') X.xe s1 := fun {es ep} hs hgd hx hdt k => by
    have hr : s1.heap.DictRaw d es ep := ⟨o, hgd, hx, hdt⟩
    refine ⟨hr.typeIs, fun a e2 => ?_, ?_⟩
    · cases e2
      exact ⟨o, hgd, hx.2.1⟩
    have I2 : Inv X pins σ H1 { s1 with heap := s1.heap.push { cls := .type "dict_items", data := .fields #[.ref d] } } := I1.kept (t' := s1.toks) fun b ob q => Heap.get?_push_of_some _ q
    refine Calls.callWith_builtin rfl (PySem.evalArgs_none (DT.callItems (es := es) (ep := ep) hs hr ?_))
    exact wpAny_pyIter_items_raw (d := d) ⟨_, Heap.get?_push_size _ rfl, rfl, rfl⟩ (hr.at fun o' ho' => Heap.get?_push_of_some _ ho') (k I2)
  rcases q with ⟨kvs, hd, q⟩ | ⟨kvs, hd, q⟩
  · obtain ⟨hs, hgd, hx, es, ep, vs, hdt, hsz, kv, hm⟩ := I1.frzK hd
    exact fin hs hgd hx hdt fun I2 => pi_one (tk := s1.toks) I2 _ (turn_items _ hdt) ⟨.none, .none, by rw [hsz]; exact Heap.get?_push_size _ rfl⟩ q
  · obtain ⟨hs, hgd, hx, es, ep, hdt, hsz, ent⟩ := frzT2 I1 hd
    exact fin hs hgd hx hdt fun I2 => pi_one (tk := s1.toks) I2 _ (turn_itemsT _ hdt) ⟨.none, .none, by rw [hsz]; exact Heap.get?_push_size _ rfl⟩ q
end
end DL
set_option Elab.async false
set_option linter.all false
set_option maxRecDepth 100000
set_option maxHeartbeats 1000000
/-! DL15: loops over dicts: the dict is locked meanwhile. -/
namespace DL
open PySem L2 Evl
def Base.lk (B : Base) (d : Addr) (o : HO) : Base := ⟨upd B.G d o, B.F0, B.H0, B.s0⟩
theorem isD.mut {u : HO} (h : isD u) : Mut (some u) := by
  cases u <;> first | trivial | exact h.elim
def keyD : Key → D
  | .inl i => .int i
  | .inr x => .str x
def dItems : D → Option (List D)
  | .dict kvs => some (kvs.map fun p => .tuple [keyD p.1, p.2])
  | .dictT kvs => some (kvs.map fun p => .tuple [.tuple (p.1.map keyD), p.2])
  | _ => Option.none
def dKeys : D → Option (List D)
  | .dict kvs => some (kvs.map fun p => keyD p.1)
  | .dictT kvs => some (kvs.map fun p => .tuple (p.1.map keyD))
  | _ => Option.none
def ofS {α : Type} : Option α → (α → Prop) → Prop
  | some x, k => k x
  | none, _ => False
theorem ofS.eq {α : Type} {o : Option α} {k : α → Prop} (h : ofS o k) : ∃ x, o = some x ∧ k x := by
  cases o with
  | none => exact h.elim
  | some x => exact ⟨x, rfl, h⟩
theorem ofS.mono {α : Type} {o : Option α} {k k' : α → Prop} (hk : ∀ x, k x → k' x) (h : ofS o k) : ofS o k' := by
  cases o with
  | none => exact h
  | some x => exact hk _ h
section
variable {K : PySem.W.Frag} {B : Base} {F F' G0 F0 : Hp} {ρ ρ' : Env} {σ σ' : L2.St} {H H' : Hp} {d : Addr} {u : HO} {o : Obj}
theorem OwR.up {a : Addr} {c : Ct} {w : HO} (h : OwR K B F H a c) (q : a ≠ d) : OwR K B F (upd H d w) a c := by
  obtain ⟨x, hx, hc⟩ := h.ob
  exact ⟨h.nf, h.ng, x, by rw [upd_ne q]; exact hx, hc⟩
theorem St.lock (S : St K B F ρ σ H) (hF : F d = some u) (hD : isD u) : St K (B.lk d (.frz o u)) F ρ σ (upd H d (.frz o u)) := by
  refine ⟨fun a w h => ?_, fun a w h => ?_, S.new, S.ge, S.thr.upd fun _ z => (nomatch z), S.len, fun i => ?_, S.own⟩
  · by_cases q : a = d
    · subst q
      rw [hF] at h
      cases h
      exact .inr ⟨hD, o, upd_same⟩
    · rw [upd_ne q]; exact S.ex a w h
  · have h : upd B.G d (.frz o u) a = some w := h
    by_cases q : a = d
    · subst q
      rw [upd_same] at h ⊢; exact h
    · rw [upd_ne q] at h ⊢; exact S.out a w h
  · have s := S.sl i
    cases hs : ρ.getD i .un with
    | un => trivial
    | fz d => rw [hs] at s; exact s
    | ow b c =>
      rw [hs] at s
      obtain ⟨a, e1, ow, h2, h3⟩ := s
      have q : a ≠ d := fun z => by have := ow.nf; rw [z, hF] at this; cases this
      obtain ⟨x, hx, hc⟩ := ow.ob
      exact ⟨a, e1, ⟨ow.nf, by show upd B.G d _ a = none; rw [upd_ne q]; exact ow.ng, x, by rw [upd_ne q]; exact hx, hc⟩, h2, h3⟩
theorem St.unlock (S : St K (B.lk d (.frz o u)) F ρ σ H) (hF : F d = some u) (hD : isD u) (hG : ∀ w, B.G d = some w → w = u) : H d = some (.frz o u) ∧ St K B F ρ σ (upd H d u) := by
  have hd : H d = some (.frz o u) := S.out d _ (show upd B.G d _ d = _ from upd_same)
  have nt : ∀ vs, u ≠ .tup vs := fun vs z => by subst z; exact hD
  refine ⟨hd, fun a w h => ?_, fun a w h => ?_, S.new, S.ge, Thr.upd S.thr fun vs z => absurd z (nt vs), S.len, fun i => ?_, S.own⟩
  · by_cases q : a = d
    · subst q
      rw [hF] at h
      cases h
      exact .inl upd_same
    · rw [upd_ne q]; exact S.ex a w h
  · by_cases q : a = d
    · subst q
      rw [hG w h, upd_same]
    · rw [upd_ne q]; exact S.out a w (show upd B.G d _ a = _ by rw [upd_ne q]; exact h)
  · have s := S.sl i
    cases hs : ρ.getD i .un with
    | un => trivial
    | fz d => rw [hs] at s; exact s
    | ow b c =>
      rw [hs] at s
      obtain ⟨a, e1, ow, h2, h3⟩ := s
      have q : a ≠ d := fun z => by have := ow.nf; rw [z, hF] at this; cases this
      have ng : upd B.G d (.frz o u) a = none := ow.ng
      rw [upd_ne q] at ng
      obtain ⟨x, hx, hc⟩ := ow.ob
      exact ⟨a, e1, ⟨ow.nf, ng, x, by rw [upd_ne q]; exact hx, hc⟩, h2, h3⟩
/-- a tuple that stands may be frozen -/
theorem St.frzTup (S : St K B F ρ σ H) {q : Addr} {vs : List V} (h : H q = some (.tup vs)) : ∃ F', Ex F F' ∧ St K B F' ρ σ H ∧ F' q = some (.tup vs) := by
  cases hf : F q with
  | some u =>
    rcases S.ex q u hf with z | ⟨_, o, z⟩
    · rw [h] at z; cases z
      exact ⟨F, Ex.refl _, S, hf⟩
    · rw [h] at z; cases z
  | none =>
    obtain ⟨e, S'⟩ := S.freezeAt h hf (S.n0 h) fun i hi z => by
      cases hs : ρ.getD i .un with
      | un => rw [hs] at hi; cases hi
      | fz d => rw [hs] at hi; cases hi
      | ow b c =>
        obtain ⟨a, e1, ⟨_, _, x, hx, hc⟩, _⟩ := S.ow hs
        rw [z] at e1
        have : q = a := by simpa using e1
        subst this
        rw [h] at hx
        exact hc.noTup vs (by simpa using hx.symm)
    exact ⟨_, e, S', upd_same⟩
theorem keyD_rep (k : Key) : Rep K F (kV k) (keyD k) := by
  cases k with
  | inl i => exact .int i
  | inr x => exact .str x
theorem keysD_rep : ∀ (k : List Key), Reps K F (k.map kV) (k.map keyD)
  | [] => .nil
  | k :: ks => .cons (keyD_rep k) (keysD_rep ks)
theorem yld_itemsK {kvs : List (Key × V)} {ds : List (Key × D)} (g : G0 d = some (.frz o (.dK kvs))) (r : KReps K F0 kvs ds) : Yld K G0 F0 (Iti d o kvs) (ds.map fun p => .tuple [keyD p.1, p.2]) := fun B F ρ σ H eg e S => by
  have hH : H d = some (.frz o (.dK kvs)) := S.out _ _ (eg _ _ g)
  refine ⟨fun i hi => ⟨hH, by rw [r.length]; simpa using hi⟩, ⟨hH, by rw [r.length]; simp⟩, fun i x v H' hx y => ?_⟩
  obtain ⟨T, k, w, hk, rfl, hT, rfl⟩ := y
  rw [List.getElem?_map] at hx
  cases hp : ds[i]? with
  | none => rw [hp] at hx; cases hx
  | some p =>
    obtain ⟨k', x'⟩ := p
    rw [hp] at hx
    have hx : D.tuple [keyD k', x'] = x := by simpa using hx
    subst hx
    obtain ⟨rfl, rw'⟩ := r.get i k w k' x' hk hp
    obtain ⟨e1, S1⟩ := S.alloc (o := .tup [kV k, w]) hT
    exact ⟨_, e1, S1, .tup upd_same (.cons (keyD_rep k) (.cons ((rw'.mono e).mono e1) .nil))⟩
theorem yld_itemsT {kvs : List (List Key × V)} {ds : List (List Key × D)} (g : G0 d = some (.frz o (.dT kvs))) (r : KReps K F0 kvs ds) : Yld K G0 F0 (Itit d o kvs) (ds.map fun p => .tuple [.tuple (p.1.map keyD), p.2]) := fun B F ρ σ H eg e S => by
  have hH : H d = some (.frz o (.dT kvs)) := S.out _ _ (eg _ _ g)
  refine ⟨fun i hi => ⟨hH, by rw [r.length]; simpa using hi⟩, ⟨hH, by rw [r.length]; simp⟩, fun i x v H' hx y => ?_⟩
  obtain ⟨T, k, w, q, hk, rfl, hq, hT, rfl⟩ := y
  rw [List.getElem?_map] at hx
  cases hp : ds[i]? with
  | none => rw [hp] at hx; cases hx
  | some p =>
    obtain ⟨k', x'⟩ := p
    rw [hp] at hx
    have hx : D.tuple [.tuple (k'.map keyD), x'] = x := by simpa using hx
    subst hx
    obtain ⟨rfl, rw'⟩ := r.get i k w k' x' hk hp
    obtain ⟨F1, e1, S1, hq1⟩ := S.frzTup hq
    obtain ⟨e2, S2⟩ := S1.alloc (o := .tup [.ref q, w]) hT
    exact ⟨_, e1.trans e2, S2, .tup upd_same (.cons (.tup (e2 _ _ hq1) (keysD_rep k)) (.cons (((rw'.mono e).mono e1).mono e2) .nil))⟩
theorem yld_keysK {kvs : List (Key × V)} {ds : List (Key × D)} (g : G0 d = some (.frz o (.dK kvs))) (r : KReps K F0 kvs ds) : Yld K G0 F0 (Itk d o kvs) (ds.map fun p => keyD p.1) := fun B F ρ σ H eg e S => by
  have hH : H d = some (.frz o (.dK kvs)) := S.out _ _ (eg _ _ g)
  refine ⟨fun i hi => ⟨hH, by rw [r.length]; simpa using hi⟩, ⟨hH, by rw [r.length]; simp⟩, fun i x v H' hx y => ?_⟩
  obtain ⟨rfl, k, w, hk, rfl⟩ := y
  rw [List.getElem?_map] at hx
  cases hp : ds[i]? with
  | none => rw [hp] at hx; cases hx
  | some p =>
    obtain ⟨k', x'⟩ := p
    rw [hp] at hx
    have hx : keyD k' = x := by simpa using hx
    subst hx
    obtain ⟨rfl, rw'⟩ := r.get i k w k' x' hk hp
    exact ⟨_, Ex.refl _, S, keyD_rep k⟩
theorem yld_keysT {kvs : List (List Key × V)} {ds : List (List Key × D)} (g : G0 d = some (.frz o (.dT kvs))) (r : KReps K F0 kvs ds) : Yld K G0 F0 (Itkt d o kvs) (ds.map fun p => .tuple (p.1.map keyD)) := fun B F ρ σ H eg e S => by
  have hH : H d = some (.frz o (.dT kvs)) := S.out _ _ (eg _ _ g)
  refine ⟨fun i hi => ⟨hH, by rw [r.length]; simpa using hi⟩, ⟨hH, by rw [r.length]; simp⟩, fun i x v H' hx y => ?_⟩
  obtain ⟨rfl, k, w, q, hk, rfl, hq⟩ := y
  rw [List.getElem?_map] at hx
  cases hp : ds[i]? with
  | none => rw [hp] at hx; cases hx
  | some p =>
    obtain ⟨k', x'⟩ := p
    rw [hp] at hx
    have hx : D.tuple (k'.map keyD) = x := by simpa using hx
    subst hx
    obtain ⟨rfl, rw'⟩ := r.get i k w k' x' hk hp
    obtain ⟨F1, e1, S1, hq1⟩ := S.frzTup hq
    exact ⟨_, e1, S1, .tup hq1 (keysD_rep k)⟩
end
/-! ### the slot's dict, locked -/
def Locked (B : Base) (F : Hp) (σ : L2.St) (i : Nat) : Prop := ∃ d o u, σ[i]? = some (some (.ref d)) ∧ B.G d = some (.frz o u) ∧ F d = some u ∧ isD u
def liftIL (K : PySem.W.Frag) (W : WX) (i : Nat) (di : DI) : TI := fun σ H R => ∃ B F ρ, St K B F ρ σ H ∧ Locked B F σ i ∧ di ρ (xl K W B F σ) fun ds ρ' => ∀ J B' F' H', B.Le B' → Ex F F' → St K B' F' ρ' σ H' → Yld K B'.G F' J ds → R J H'
def liftSL (K : PySem.W.Frag) (W : WX) (i : Nat) (ds : DS) : TS := fun D σ H => ∃ B F ρ, St K B F ρ σ H ∧ Locked B F σ i ∧ ds ρ (postL K W B F D)
def liftNL (K : PySem.W.Frag) (W : WX) (i : Nat) (de : NE) : TE := fun σ H Q => ∃ B F ρ, St K B F ρ σ H ∧ Locked B F σ i ∧ de ρ (xl K W B F σ) fun c ρ' => ∀ v F' H', Ex F F' → St K B F' ρ' σ H' → NwR K B F' ρ' σ H' v c → Q v H'
structure PDIL (X : Cx) (W : WX) (i : Nat) (tg e : Expr) (di : DI) : Prop where
  mono : MonoI di
  run : PI X tg e (liftIL X.K W i di)
def isDk : Sl → Prop
  | .fz (.dict _) => True
  | .fz (.dictT _) => True
  | _ => False
def dLk (i : Nat) (s : DS) : DS := fun ρ P => isDk (gt ρ i) ∧ s ρ { P with ex := fun _ _ => False }
def nLk (i : Nat) (s : NE) : NE := fun ρ X K => isDk (gt ρ i) ∧ s ρ X0 K
section
variable {K : PySem.W.Frag} {B : Base} {F F' : Hp} {ρ ρ' : Env} {σ σ' : L2.St} {H H' : Hp}
theorem St.dkAt (S : St K B F ρ σ H) {i : Nat} (h : isDk (gt ρ i)) : ∃ d u, σ[i]? = some (some (.ref d)) ∧ F d = some u ∧ isD u := by
  cases hs : gt ρ i with
  | un => rw [hs] at h; exact h.elim
  | ow b c => rw [hs] at h; exact h.elim
  | fz x =>
    rw [hs] at h
    obtain ⟨v, e1, r⟩ := S.fz hs
    cases x with
    | dict kvs => obtain ⟨a, ws, rfl, ha, _⟩ := r.dict_inv; exact ⟨a, _, e1, ha, trivial⟩
    | dictT kvs => obtain ⟨a, ws, rfl, ha, _⟩ := r.dictT_inv; exact ⟨a, _, e1, ha, trivial⟩
    | _ => exact h.elim
end
section
variable {X : Cx} {W : WX} {e elt tg it : Expr} {ds s : DS} {dn : NE} {i : Nat} {st : Stmt} {pos : Pos}
theorem PS.or {t t' : TS} (h : PS X st t) (h' : PS X st t') : PS X st (fun D σ H => t D σ H ∨ t' D σ H) := ⟨fun pins s σ H D I q => q.elim (h.run pins s σ H D I) (h'.run pins s σ H D I)⟩
theorem PE.or {t t' : TE} (h : PE X e t) (h' : PE X e t') : PE X e (fun σ H Q => t σ H Q ∨ t' σ H Q) := ⟨fun pins s σ H D I q => q.elim (h.run pins s σ H D I) (h'.run pins s σ H D I)⟩
/-- the ground of the locked, when it is locked already -/
theorem lkLe {K : PySem.W.Frag} {B : Base} {F : Hp} {ρ : Env} {σ : L2.St} {H : Hp} {d : Addr} {u : HO} {o : Obj} (S : St K B F ρ σ H) (hF : F d = some u) (hd : H d = some (.frz o u)) : B.Le (B.lk d (.frz o u)) ∧ St K (B.lk d (.frz o u)) F ρ σ H := by
  refine ⟨⟨rfl, rfl, rfl, fun a w h => ?_⟩, S.ex, fun a w h => ?_, S.new, S.ge, S.thr, S.len, fun i => ?_, S.own⟩
  · show upd B.G d _ a = _
    by_cases q : a = d
    · subst q
      have := S.out _ _ h
      rw [hd] at this
      rw [upd_same]; exact this
    · rw [upd_ne q]; exact h
  · have h : upd B.G d (.frz o u) a = some w := h
    by_cases q : a = d
    · subst q
      rw [upd_same] at h; rw [hd]; exact h
    · rw [upd_ne q] at h; exact S.out a w h
  · have s := S.sl i
    cases hs : ρ.getD i .un with
    | un => trivial
    | fz d => rw [hs] at s; exact s
    | ow b c =>
      rw [hs] at s
      obtain ⟨a, e1, ow, h2, h3⟩ := s
      have q : a ≠ d := fun z => by have := ow.nf; rw [z, hF] at this; cases this
      exact ⟨a, e1, ⟨ow.nf, by show upd B.G d _ a = none; rw [upd_ne q]; exact ow.ng, ow.ob⟩, h2, h3⟩
theorem NwR.unlock {K : PySem.W.Frag} {B : Base} {F : Hp} {ρ : Env} {σ : L2.St} {H : Hp} {d : Addr} {u : HO} {o : HO} {v : V} {c : Ct} (hF : F d = some u) (n : NwR K (B.lk d o) F ρ σ H v c) : NwR K B F ρ σ (upd H d u) v c := by
  obtain ⟨a, rfl, ow, h0, no⟩ := n.ex
  have q : a ≠ d := fun z => by have := ow.nf; rw [z, hF] at this; cases this
  have ng : upd B.G d o a = none := ow.ng
  rw [upd_ne q] at ng
  obtain ⟨x, hx, hc⟩ := ow.ob
  exact ⟨a, rfl, ⟨ow.nf, ng, x, by rw [upd_ne q]; exact hx, hc⟩, h0, no⟩
theorem RzR.unlock {K : PySem.W.Frag} {B : Base} {F : Hp} {ρ : Env} {σ : L2.St} {H : Hp} {d : Addr} {u : HO} {o : HO} {v : V} {r : Rv} (hF : F d = some u) (n : RzR K (B.lk d o) F ρ σ H v r) : RzR K B F ρ σ (upd H d u) v r := by
  cases n with
  | d h => exact .d h
  | nw h => exact .nw (h.unlock hF)
theorem pds_lock (m : MonoS ds) (h : PS X st (liftSL X.K W i ds)) : PDS X W st (dLk i ds) := by
  refine ⟨⟨fun {ρ P P'} le q => ⟨q.1, m.go (P := { P with ex := fun _ _ => False }) (P' := { P' with ex := fun _ _ => False }) ⟨le.nx, le.rt, le.bk, le.ct, fun _ _ h => h⟩ q.2⟩⟩, PS.imp (PS.or (ps_lock h) h) fun D σ H ⟨B, F, ρ, S, hk, q⟩ => ?_⟩
  obtain ⟨d, u, e1, hF, hD⟩ := S.dkAt hk
  rcases S.ex d u hF with hH | ⟨_, o, hH⟩
  · refine .inl ⟨d, u, hH, hD.mut, fun od => ⟨B.lk d (.frz od u), F, ρ, S.lock hF hD, ⟨d, od, u, e1, show upd B.G d _ d = _ from upd_same, hF, hD⟩, m.go ?_ q⟩⟩
    have hG : ∀ w, B.G d = some w → w = u := fun w hw => by
      have := S.out _ _ hw
      rw [hH] at this
      simpa using this.symm
    exact ⟨fun ρ' h F' σ' H' e' S' => ⟨(S'.unlock (e' _ _ hF) hD hG).1, h F' σ' _ e' (S'.unlock (e' _ _ hF) hD hG).2⟩, fun r ρ' h v F' σ' H' e' S' z => ⟨(S'.unlock (e' _ _ hF) hD hG).1, h v F' σ' _ e' (S'.unlock (e' _ _ hF) hD hG).2 (z.unlock (e' _ _ hF))⟩,
      fun ρ' h F' σ' H' e' S' => ⟨(S'.unlock (e' _ _ hF) hD hG).1, h F' σ' _ e' (S'.unlock (e' _ _ hF) hD hG).2⟩, fun ρ' h F' σ' H' e' S' => ⟨(S'.unlock (e' _ _ hF) hD hG).1, h F' σ' _ e' (S'.unlock (e' _ _ hF) hD hG).2⟩, fun x ρ' h => h.elim⟩
  · obtain ⟨l, S2⟩ := lkLe S hF hH
    refine .inr ⟨B.lk d (.frz o u), F, ρ, S2, ⟨d, o, u, e1, show upd B.G d _ d = _ from upd_same, hF, hD⟩, m.go ?_ q⟩
    exact ⟨fun ρ' h F' σ' H' e' S' => h F' σ' _ e' (S'.weaken l), fun r ρ' h v F' σ' H' e' S' z => h v F' σ' _ e' (S'.weaken l) (z.weaken l), fun ρ' h F' σ' H' e' S' => h F' σ' _ e' (S'.weaken l), fun ρ' h F' σ' H' e' S' => h F' σ' _ e' (S'.weaken l), fun x ρ' h => h.elim⟩
theorem pn_lock (m : MonoN dn) (h : PE X e (liftNL X.K W i dn)) : PN X W e (nLk i dn) := by
  refine ⟨⟨fun hx hk q => ⟨q.1, m.go (fun _ _ h => h) hk q.2⟩⟩, PE.imp (PE.or (pe_lock h) h) fun σ H Q ⟨B, F, ρ, S, hk, q⟩ => ?_⟩
  obtain ⟨d, u, e1, hF, hD⟩ := S.dkAt hk
  rcases S.ex d u hF with hH | ⟨_, o, hH⟩
  · refine .inl ⟨d, u, hH, hD.mut, fun od => ⟨B.lk d (.frz od u), F, ρ, S.lock hF hD, ⟨d, od, u, e1, show upd B.G d _ d = _ from upd_same, hF, hD⟩, m.go (fun _ _ h => h.elim) ?_ q⟩⟩
    have hG : ∀ w, B.G d = some w → w = u := fun w hw => by
      have := S.out _ _ hw
      rw [hH] at this
      simpa using this.symm
    exact fun r ρ' h v F' H' e' S' z => ⟨(S'.unlock (e' _ _ hF) hD hG).1, h v F' _ e' (S'.unlock (e' _ _ hF) hD hG).2 (z.unlock (e' _ _ hF))⟩
  · obtain ⟨l, S2⟩ := lkLe S hF hH
    refine .inr ⟨B.lk d (.frz o u), F, ρ, S2, ⟨d, o, u, e1, show upd B.G d _ d = _ from upd_same, hF, hD⟩, m.go (fun _ _ h => h.elim) ?_ q⟩
    exact fun r ρ' h v F' H' e' S' z => h v F' _ e' (S'.weaken l) (z.weaken l)
end
end DL
set_option Elab.async false
set_option linter.all false
set_option maxRecDepth 100000
set_option maxHeartbeats 1000000
/-! DL16: for and [..] over dicts. -/
namespace DL
open PySem L2 Evl
def iItV (i : Nat) : DI := fun ρ _ K => ofFz (gt ρ i) fun d => ofS (dItems d) fun ds => K ds ρ
def iKyV (i : Nat) : DI := fun ρ _ K => ofFz (gt ρ i) fun d => ofS (dKeys d) fun ds => K ds ρ
theorem mono_iItV {i : Nat} : MonoI (iItV i) := ⟨fun hx hk h => by
  obtain ⟨d, e, h⟩ := ofFz.eq h
  unfold iItV; rw [e]; exact ofS.mono (fun _ h => hk _ _ h) h⟩
theorem mono_iKyV {i : Nat} : MonoI (iKyV i) := ⟨fun hx hk h => by
  obtain ⟨d, e, h⟩ := ofFz.eq h
  unfold iKyV; rw [e]; exact ofS.mono (fun _ h => hk _ _ h) h⟩
theorem refInj {a b : Addr} {σ : L2.St} {i : Nat} (h : σ[i]? = some (some (.ref a))) (h2 : σ[i]? = some (some (.ref b))) : a = b := by
  rw [h] at h2; simpa using h2
section
variable {X : Cx} {W : WX} {e elt tg it o : Expr} {s : DS} {da de : DE} {dt : DT} {di : DI} {dn : NE} {i : Nat} {st : Stmt} {pos p : Pos}
/-- the locked slot's dict, read -/
theorem lockedV {K : PySem.W.Frag} {B : Base} {F : Hp} {ρ : Env} {σ : L2.St} {H : Hp} {x : D} (S : St K B F ρ σ H) (L : Locked B F σ i) (e : gt ρ i = .fz x) : ∃ d o u, σ[i]? = some (some (.ref d)) ∧ H d = some (.frz o u) ∧ B.G d = some (.frz o u) ∧ F d = some u ∧ Rep K F (.ref d) x := by
  obtain ⟨d, o, u, e1, g, hF, hD⟩ := L
  obtain ⟨v, e2, r⟩ := S.fz e
  rw [e1] at e2
  have : V.ref d = v := by simpa using e2
  subst this
  exact ⟨d, o, u, e1, S.out _ _ g, g, hF, r⟩
theorem pdil_items {elts : List Expr} {kk : Nat} {tpos apos cpos : Pos} (i : Nat) {x : Str} (hN : X.N[i]? = some x := by rfl) (hv : Vis X.env.scope x := by first | exact Or.inl rfl | exact Or.inr (Or.inl rfl) | exact Or.inr (Or.inr rfl)) (hd : (x == ("__debug__" : Str)) = false := by decide)
    (hcd : (x == ("__classdict__" : Str)) = false := by decide) (hbase : attributeBase (.Name x p) "items" X.env (eval (.Name x p) X.env) = eval (.Name x p) X.env := by rfl) (hline : (apos.endLine == cpos.line) = true := by rfl) :
    PDIL X W i (.Tuple elts kk tpos) (.Call (.Attribute (.Name x p) "items" apos) [] [] cpos) (iItV i) :=
  ⟨mono_iItV, PI.imp (pi_itemsB (pe_var (i := i) hN hv hd hcd) hbase hline) fun σ H R ⟨B, F, ρ, S, L, h⟩ => by
    obtain ⟨x, e, h⟩ := ofFz.eq h
    obtain ⟨ds, e2, h⟩ := ofS.eq h
    obtain ⟨d, o, u, e1, hH, g, hF, r⟩ := lockedV S L e
    cases x with
    | dict kvs =>
      obtain ⟨a, ws, e3, ha, r⟩ := r.dict_inv
      cases e3
      rw [hF] at ha
      cases ha
      cases e2
      exact ⟨_, e1, d, o, rfl, .inl ⟨ws, hH, h _ B F H (.refl _) (Ex.refl _) S (yld_itemsK g r)⟩⟩
    | dictT kvs =>
      obtain ⟨a, ws, e3, ha, r⟩ := r.dictT_inv
      cases e3
      rw [hF] at ha
      cases ha
      cases e2
      exact ⟨_, e1, d, o, rfl, .inr ⟨ws, hH, h _ B F H (.refl _) (Ex.refl _) S (yld_itemsT g r)⟩⟩
    | _ => cases e2⟩
theorem pdil_keys (i : Nat) {x : Str} (hN : X.N[i]? = some x := by rfl) (hv : Vis X.env.scope x := by first | exact Or.inl rfl | exact Or.inr (Or.inl rfl) | exact Or.inr (Or.inr rfl)) (hd : (x == ("__debug__" : Str)) = false := by decide)
    (hcd : (x == ("__classdict__" : Str)) = false := by decide) : PDIL X W i tg (.Name x p) (iKyV i) :=
  ⟨mono_iKyV, PI.imp (pi_keys (pe_var (i := i) hN hv hd hcd)) fun σ H R ⟨B, F, ρ, S, L, h⟩ => by
    obtain ⟨x, e, h⟩ := ofFz.eq h
    obtain ⟨ds, e2, h⟩ := ofS.eq h
    obtain ⟨d, o, u, e1, hH, g, hF, r⟩ := lockedV S L e
    cases x with
    | dict kvs =>
      obtain ⟨a, ws, e3, ha, r⟩ := r.dict_inv
      cases e3
      rw [hF] at ha
      cases ha
      cases e2
      exact ⟨_, e1, d, o, rfl, .inl ⟨ws, hH, h _ B F H (.refl _) (Ex.refl _) S (yld_keysK g r)⟩⟩
    | dictT kvs =>
      obtain ⟨a, ws, e3, ha, r⟩ := r.dictT_inv
      cases e3
      rw [hF] at ha
      cases ha
      cases e2
      exact ⟨_, e1, d, o, rfl, .inr ⟨ws, hH, h _ B F H (.refl _) (Ex.refl _) S (yld_keysT g r)⟩⟩
    | _ => cases e2⟩
theorem pds_forL {body : List Stmt} {g : TG} {dg : DG} {is : List Nat} (hp : PassesOwn (model X.prog X.w) X.A X.env X.xe) (hc : X.calm = true) (hi : PDIL X W i tg it di) (hg : PDG X tg g dg is) (hb : PDSs X W body s)
    (hs : ∀ x, foldedSetIterable it X.env x = pure x := by intro _; rfl) : PDS X W (.For tg it body [] pos) (dLk i (dFor di dg s)) :=
  pds_lock ⟨fun le h => hi.mono.go le.ex (fun ds ρ h => (mono_forL hg.mono hb.mono ds).go le h) h⟩ (PS.imp (ps_for hp hc hi.run hg.pg hb.run hs) fun D σ H ⟨B, F, ρ, S, L, h⟩ =>
    ⟨B, F, ρ, S, L, hi.mono.go ex_xl (fun ds ρ1 h J B' F1 H1 l e1 S1 Y => for_turn (tg := tg) (body := body) hg hb.mono l e1 S1 Y h) h⟩)
theorem pn_lcL {ifs : List Expr} {dg : DG} {g : TG} {is vs : List Nat} {scope : Scope} {own : List (Str × Nat)} (hc : X.calm = true) (hN : X.N.Nodup) (hi : PDIL X W i tg it di) (ok : BlkOk X.N X.env.scope scope own) (hv : own.map (·.2) = vs)
    (hg : ∀ (s : Shared) (H : Hp) (C : Addr) (cl : List (Str × Addr)) (fp : List Addr), PDG (X.blk s H scope (compEnvC scope cl C X.env) fp) tg g dg is) (his : ∀ j ∈ is, j ∈ vs)
    (ht : ∀ (s : Shared) (H : Hp) (C : Addr) (cl : List (Str × Addr)) (fp : List Addr), PDTs (X.blk s H scope (compEnvC scope cl C X.env) fp) W0 ifs dt)
    (he : ∀ (s : Shared) (H : Hp) (C : Addr) (cl : List (Str × Addr)) (fp : List Addr), PD (X.blk s H scope (compEnvC scope cl C X.env) fp) W0 elt de) (hs : ∀ x, foldedSetIterable it X.env x = pure x := by intro _; rfl) :
    PN X W (.ListComp elt [⟨tg, it, ifs, 0⟩] scope pos) (nLk i (nLC di dg dt de vs)) := by
  subst hv
  have mg := (hg X.s_0 X.H_0 0 [] []).mono
  have mt := (ht X.s_0 X.H_0 0 [] []).mono
  have me := (he X.s_0 X.H_0 0 [] []).mono
  refine pn_lock (mono_nLC hi.mono mg mt me) (PE.imp (pe_lc (pos := pos) hc hN hi.run ok (fun s H C cl fp => (hg s H C cl fp).pg) (fun s H C cl fp => (ht s H C cl fp).run) (fun s H C cl fp => (he s H C cl fp).run) hs)
    fun σ H Q ⟨B, F, ρ, S, L, h⟩ => ⟨B, F, ρ, S, L, hi.mono.go (fun _ _ h => h) (fun ds ρ1 h J B' F1 H1 l e1 S1 Y => lc_turn (Xb := X.blk X.s_0 X.H_0 scope (compEnvC scope [] 0 X.env) []) rfl (hg _ _ _ _ _) mt me his l e1 S1 Y h) h⟩)
/-! ### over a new dict: locked from then on -/
def tLk (te : TE) : TE := fun σ H Q => te σ H fun x H1 => ∃ d u, x = .ref d ∧ H1 d = some u ∧ Mut (some u) ∧ ∀ od, Q x (upd H1 d (.frz od u))
theorem pe_lk {te : TE} (h : PE X e te) : PE X e (tLk te) := ⟨fun pins s σ H Q I q => thn (h.run pins s σ H _ I q) fun v s1 ⟨x, H1, I1, r1, d, u, ex, hd, mu, q1⟩ => by
  obtain ⟨od, I2⟩ := I1.lock hd mu
  exact ⟨x, _, I2, r1, q1 od⟩⟩
def iItN (dn : NE) : DI := fun ρ X K => dn ρ X fun c ρ1 => ofS (dItems c.d) fun ds => K ds ρ1
def iKyN (dn : NE) : DI := fun ρ X K => dn ρ X fun c ρ1 => ofS (dKeys c.d) fun ds => K ds ρ1
theorem mono_iItN (m : MonoN dn) : MonoI (iItN dn) := ⟨fun hx hk h => m.go hx (fun c ρ h => ofS.mono (fun _ h => hk _ _ h) h) h⟩
theorem newLock {K : PySem.W.Frag} {B : Base} {F : Hp} {ρ : Env} {σ : L2.St} {H : Hp} {v : V} {c : Ct} (S : St K B F ρ σ H) (n : NwR K B F ρ σ H v c) : ∃ d u, v = .ref d ∧ H d = some u ∧ CtR K F d u c ∧ (isD u → ∀ o : Obj, B.Le (B.lk d (.frz o u)) ∧ Ex F (upd F d u) ∧ St K (B.lk d (.frz o u)) (upd F d u) ρ σ (upd H d (.frz o u))) := by
  obtain ⟨a, rfl, ⟨nf, ng, u, hu, hc⟩, h0, no⟩ := n.ex
  refine ⟨a, u, rfl, hu, hc, fun hD o => ?_⟩
  obtain ⟨e, S1⟩ := S.freezeAt hu nf (.inl h0) no
  refine ⟨⟨rfl, rfl, rfl, fun x w h => ?_⟩, e, S1.lock upd_same hD⟩
  have q : x ≠ a := fun z => by rw [z, ng] at h; cases h
  show upd B.G a _ x = _
  rw [upd_ne q]; exact h
theorem pdi_itemsN {elts : List Expr} {kk : Nat} {tpos apos cpos : Pos} (h : PN X W e dn) (hbase : attributeBase e "items" X.env (eval e X.env) = eval e X.env := by rfl) (hline : (apos.endLine == cpos.line) = true := by rfl) :
    PDI X W (.Tuple elts kk tpos) (.Call (.Attribute e "items" apos) [] [] cpos) (iItN dn) :=
  ⟨mono_iItN h.mono, PI.imp (pi_itemsB (pe_lk h.run) hbase hline) fun σ H R ⟨B, F, ρ, S, q⟩ => liftN.of h.mono (Ex.refl _) S q fun c ρ1 h v F1 H1 e1 S1 n => by
    obtain ⟨ds, e2, h⟩ := ofS.eq h
    obtain ⟨d, u, rfl, hu, hc, go⟩ := newLock S1 n
    cases c with
    | lst ds => cases e2
    | dctN kvs => cases e2
    | ins C lay xs => cases e2
    | dct kvs =>
      obtain ⟨ws, rfl, r⟩ := hc
      cases e2
      refine ⟨d, _, rfl, hu, trivial, fun od => ⟨d, od, rfl, .inl ⟨ws, upd_same, ?_⟩⟩⟩
      obtain ⟨l, e3, S2⟩ := go trivial od
      exact h _ _ _ _ l (e1.trans e3) S2 (yld_itemsK (show upd B.G d _ d = _ from upd_same) (r.mono e3))
    | dctT kvs =>
      obtain ⟨ws, rfl, r⟩ := hc
      cases e2
      refine ⟨d, _, rfl, hu, trivial, fun od => ⟨d, od, rfl, .inr ⟨ws, upd_same, ?_⟩⟩⟩
      obtain ⟨l, e3, S2⟩ := go trivial od
      exact h _ _ _ _ l (e1.trans e3) S2 (yld_itemsT (show upd B.G d _ d = _ from upd_same) (r.mono e3))⟩
end
end DL
set_option Elab.async false
set_option linter.all false
set_option maxRecDepth 100000
set_option maxHeartbeats 1000000
/-! DL17: built-in calls. -/
namespace DL
open PySem L2 Evl
def asInts : List D → Option (List Int)
  | [] => some []
  | .int i :: xs => (asInts xs).map (i :: ·)
  | _ :: _ => Option.none
def asBools : List D → Option (List Bool)
  | [] => some []
  | .bool i :: xs => (asBools xs).map (i :: ·)
  | _ :: _ => Option.none
theorem asInts_eq : ∀ {xs : List D} {ns : List Int}, asInts xs = some ns → xs = ns.map .int
  | [], ns, h => by cases h; rfl
  | x :: xs, ns, h => by
    cases x <;> first | (cases h; done) | skip
    rename_i i
    unfold asInts at h
    cases q : asInts xs with
    | none => rw [q] at h; cases h
    | some ms => rw [q] at h; cases h; rw [asInts_eq q]; rfl
theorem asBools_eq : ∀ {xs : List D} {ns : List Bool}, asBools xs = some ns → xs = ns.map .bool
  | [], ns, h => by cases h; rfl
  | x :: xs, ns, h => by
    cases x <;> first | (cases h; done) | skip
    rename_i i
    unfold asBools at h
    cases q : asBools xs with
    | none => rw [q] at h; cases h
    | some ms => rw [q] at h; cases h; rw [asBools_eq q]; rfl
theorem asInts_map (ns : List Int) : asInts (ns.map .int) = some ns := by
  induction ns with
  | nil => rfl
  | cons n ns ih => simp [asInts, ih]
theorem asBools_map (ns : List Bool) : asBools (ns.map .bool) = some ns := by
  induction ns with
  | nil => rfl
  | cons n ns ih => simp [asBools, ih]
section
variable {K : PySem.W.Frag} {F F' H : Hp}
theorem Reps.ints : ∀ {ns : List Int} {vs : List V}, Reps K F vs (ns.map .int) → vs = ns.map .int
  | [], [], .nil => rfl
  | n :: ns, v :: vs, .cons r t => by cases r.int_inv; rw [Reps.ints t]; rfl
theorem Reps.bools : ∀ {ns : List Bool} {vs : List V}, Reps K F vs (ns.map .bool) → vs = ns.map .bl
  | [], [], .nil => rfl
  | n :: ns, v :: vs, .cons r t => by cases r.bool_inv; rw [Reps.bools t]; rfl
theorem Reps.ofInts : ∀ {ns : List Int}, Reps K F (ns.map .int) (ns.map .int)
  | [] => .nil
  | n :: ns => .cons (.int n) Reps.ofInts
theorem Reps.one {vs : List V} {d : D} (r : Reps K F vs [d]) : ∃ v, vs = [v] ∧ Rep K F v d := by
  cases r with
  | cons r t => cases t; exact ⟨_, rfl, r⟩
theorem Reps.two {vs : List V} {d d2 : D} (r : Reps K F vs [d, d2]) : ∃ v v2, vs = [v, v2] ∧ Rep K F v d ∧ Rep K F v2 d2 := by
  cases r with
  | cons r t => obtain ⟨v2, rfl, r2⟩ := t.one; exact ⟨_, _, rfl, r, r2⟩
def fAbs : DB
  | [.int i], P => P (.int i.natAbs)
  | _, _ => False
theorem rc_abs : RCall K (fun xs H Q => ∃ i, xs = [V.int i] ∧ Q (V.int (if i < 0 then -i else i)) H) fAbs := by
  refine ⟨fun {xs P P'} hp h => ?_, fun {B F ρ σ H vs xs Q P} S r h k => ?_⟩
  · unfold fAbs at h ⊢; split at h <;> first | exact hp _ h | exact h.elim
  · unfold fAbs at h
    split at h
    · obtain ⟨v, rfl, r1⟩ := r.one
      cases r1.int_inv
      rename_i i
      refine ⟨i, rfl, k _ h _ F H (Ex.refl _) S ?_⟩
      have : (if i < 0 then -i else i) = (i.natAbs : Int) := by split <;> omega
      rw [this]; exact .int _
    · exact h.elim
def fInt : DB
  | [.int i], P => P (.int i)
  | [.bool b], P => P (.int (if b then 1 else 0))
  | _, _ => False
theorem rc_int : RCall K (fun xs H Q => (∃ i, xs = [V.int i] ∧ Q (V.int i) H) ∨ ∃ k, xs = [V.bl k] ∧ Q (V.int (if k then 1 else 0)) H) fInt := by
  refine ⟨fun {xs P P'} hp h => ?_, fun {B F ρ σ H vs xs Q P} S r h k => ?_⟩
  · unfold fInt at h ⊢; split at h <;> first | exact hp _ h | exact h.elim
  · unfold fInt at h
    split at h
    · obtain ⟨v, rfl, r1⟩ := r.one
      cases r1.int_inv
      exact .inl ⟨_, rfl, k _ h _ F H (Ex.refl _) S (.int _)⟩
    · obtain ⟨v, rfl, r1⟩ := r.one
      cases r1.bool_inv
      exact .inr ⟨_, rfl, k _ h _ F H (Ex.refl _) S (.int _)⟩
    · exact h.elim
def fMin : DB
  | [.int i, .int j], P => P (.int (min i j))
  | _, _ => False
def fMax : DB
  | [.int i, .int j], P => P (.int (max i j))
  | _, _ => False
theorem rc_min : RCall K (fun xs H Q => ∃ i j, xs = [V.int i, V.int j] ∧ Q (V.int (if j < i then j else i)) H) fMin := by
  refine ⟨fun {xs P P'} hp h => ?_, fun {B F ρ σ H vs xs Q P} S r h k => ?_⟩
  · unfold fMin at h ⊢; split at h <;> first | exact hp _ h | exact h.elim
  · unfold fMin at h
    split at h
    · obtain ⟨v, v2, rfl, r1, r2⟩ := r.two
      cases r1.int_inv
      cases r2.int_inv
      rename_i i j
      refine ⟨i, j, rfl, k _ h _ F H (Ex.refl _) S ?_⟩
      have : (if j < i then j else i) = min i j := by split <;> omega
      rw [this]; exact .int _
    · exact h.elim
theorem rc_max : RCall K (fun xs H Q => ∃ i j, xs = [V.int i, V.int j] ∧ Q (V.int (if j > i then j else i)) H) fMax := by
  refine ⟨fun {xs P P'} hp h => ?_, fun {B F ρ σ H vs xs Q P} S r h k => ?_⟩
  · unfold fMax at h ⊢; split at h <;> first | exact hp _ h | exact h.elim
  · unfold fMax at h
    split at h
    · obtain ⟨v, v2, rfl, r1, r2⟩ := r.two
      cases r1.int_inv
      cases r2.int_inv
      rename_i i j
      refine ⟨i, j, rfl, k _ h _ F H (Ex.refl _) S ?_⟩
      have : (if j > i then j else i) = max i j := by split <;> omega
      rw [this]; exact .int _
    · exact h.elim
def fTuple : DB
  | [.list xs], P => P (.tuple xs)
  | [.rol xs], P => P (.tuple xs)
  | [.tuple xs], P => P (.tuple xs)
  | _, _ => False
theorem rc_tuple : RCall K (fun xs H Q => ∃ p ys, xs = [V.ref p] ∧ ((SqL K H p ys ∧ ∀ l, H l = none → Q (V.ref l) (upd H l (.tup ys))) ∨ (SqT K H p ys ∧ Q (V.ref p) H))) fTuple := by
  refine ⟨fun {xs P P'} hp h => ?_, fun {B F ρ σ H vs xs Q P} S r h k => ?_⟩
  · unfold fTuple at h ⊢; split at h <;> first | exact hp _ h | exact h.elim
  · unfold fTuple at h
    split at h
    · obtain ⟨v, rfl, r1⟩ := r.one
      obtain ⟨a, ws, rfl, ha, r3⟩ := r1.list_inv
      refine ⟨a, ws, rfl, .inl ⟨.inl (.inl (S.ex.on ha)), fun l hl => ?_⟩⟩
      obtain ⟨e, S'⟩ := S.alloc (o := .tup ws) hl
      exact k _ h _ _ _ e S' (.tup upd_same (r3.mono e))
    · obtain ⟨v, rfl, r1⟩ := r.one
      obtain ⟨a, ws, rfl, ha, r3⟩ := r1.rol_inv
      refine ⟨a, ws, rfl, .inl ⟨xl_l S.ex ha, fun l hl => ?_⟩⟩
      obtain ⟨e, S'⟩ := S.alloc (o := .tup ws) hl
      exact k _ h _ _ _ e S' (.tup upd_same (r3.mono e))
    · obtain ⟨v, rfl, r1⟩ := r.one
      obtain ⟨a, ws, rfl, ha, r2⟩ := r1.tuple_inv
      exact ⟨a, ws, rfl, .inr ⟨xl_t S.ex ha, k _ h _ F H (Ex.refl _) S r1⟩⟩
    · exact h.elim
def fList : DB
  | [.list xs], P => P (.list xs)
  | [.rol xs], P => P (.list xs)
  | [.tuple xs], P => P (.list xs)
  | _, _ => False
theorem rc_list : RCall K (fun xs H Q => ∃ p ys, xs = [V.ref p] ∧ (SqL K H p ys ∨ SqT K H p ys) ∧ ∀ l, H l = none → Q (V.ref l) (upd H l (.lst ys))) fList := by
  refine ⟨fun {xs P P'} hp h => ?_, fun {B F ρ σ H vs xs Q P} S r h k => ?_⟩
  · unfold fList at h ⊢; split at h <;> first | exact hp _ h | exact h.elim
  · unfold fList at h
    have fin : ∀ {a : Addr} {ws : List V} {ys : List D}, Reps K F ws ys → P (.list ys) → ∀ l, H l = none → Q (V.ref l) (upd H l (.lst ws)) := fun {a ws ys} r h l hl => by
      obtain ⟨e, S'⟩ := S.alloc (o := .lst ws) hl
      exact k _ h _ _ _ e S' (.lst upd_same (r.mono e))
    split at h
    · obtain ⟨v, rfl, r1⟩ := r.one
      obtain ⟨a, ws, rfl, ha, r3⟩ := r1.list_inv
      exact ⟨a, ws, rfl, .inl (.inl (.inl (S.ex.on ha))), fin (a := a) r3 h⟩
    · obtain ⟨v, rfl, r1⟩ := r.one
      obtain ⟨a, ws, rfl, ha, r3⟩ := r1.rol_inv
      exact ⟨a, ws, rfl, .inl (xl_l S.ex ha), fin (a := a) r3 h⟩
    · obtain ⟨v, rfl, r1⟩ := r.one
      obtain ⟨a, ws, rfl, ha, r3⟩ := r1.tuple_inv
      exact ⟨a, ws, rfl, .inr (xl_t S.ex ha), fin (a := a) r3 h⟩
    · exact h.elim
def fListD : DB
  | [.dict kvs], P => P (.list (kvs.map fun kv => keyD kv.1))
  | _, _ => False
theorem KReps.keys {κ : Type} : ∀ {ws : List (κ × V)} {kvs : List (κ × D)}, KReps K F ws kvs → ws.map (·.1) = kvs.map (·.1)
  | [], [], .nil => rfl
  | _ :: _, _ :: _, .cons r t => by simp [KReps.keys t]
theorem rc_listD : RCall K (fun xs H Q => ∃ (a : Addr) (kvs : List (Key × V)), xs = [V.ref a] ∧ Rd H a (.dK kvs) ∧ ∀ p, H p = none → Q (V.ref p) (upd H p (.lst (kvs.map fun kv => kV kv.1)))) fListD := by
  refine ⟨fun {xs P P'} hp h => ?_, fun {B F ρ σ H vs xs Q P} S r h k => ?_⟩
  · unfold fListD at h ⊢; split at h <;> first | exact hp _ h | exact h.elim
  · unfold fListD at h
    split at h
    · obtain ⟨v, rfl, r1⟩ := r.one
      obtain ⟨a, ws, rfl, ha, r3⟩ := r1.dict_inv
      refine ⟨a, ws, rfl, S.ex.rd ha, fun l hl => ?_⟩
      obtain ⟨e, S'⟩ := S.alloc (o := .lst (ws.map fun kv => kV kv.1)) hl
      refine k _ h _ _ _ e S' (.lst upd_same ?_)
      have h1 := r3.keys
      rename_i kvs
      have h2 : (ws.map fun kv => kV kv.1) = (kvs.map (·.1)).map kV := by rw [← h1, List.map_map]; rfl
      have h3 : (kvs.map fun kv => keyD kv.1) = (kvs.map (·.1)).map keyD := by rw [List.map_map]; rfl
      rw [h2, h3]
      exact keysD_rep _
    · exact h.elim
def fSortI : DB
  | [.list xs], P => ofS (asInts xs) fun ns => ∀ ns' : List Int, ns'.Perm ns → ns'.Pairwise (· ≤ ·) → P (.list (ns'.map .int))
  | _, _ => False
theorem rc_sortI : RCall K (rSortedI K) fSortI := by
  refine ⟨fun {xs P P'} hp h => ?_, fun {B F ρ σ H vs xs Q P} S r h k => ?_⟩
  · unfold fSortI at h ⊢
    split at h
    · exact ofS.mono (fun ns h ns' h1 h2 => hp _ (h ns' h1 h2)) h
    · exact h.elim
  · unfold fSortI at h
    split at h
    · obtain ⟨ns, e, h⟩ := ofS.eq h
      rw [asInts_eq e] at r
      obtain ⟨v, rfl, r1⟩ := r.one
      obtain ⟨a, ws, rfl, ha, r3⟩ := r1.list_inv
      rw [r3.ints] at ha
      refine ⟨a, ns, rfl, .inl (.inl (S.ex.on ha)), fun ns' p h1 h2 hp => ?_⟩
      obtain ⟨e, S'⟩ := S.alloc (o := .lst (ns'.map V.int)) hp
      exact k _ (h ns' h1 h2) _ _ _ e S' (.lst upd_same Reps.ofInts)
    · exact h.elim
def fAny : DB
  | [.list xs], P => ofS (asBools xs) fun bs => P (.bool (bs.any id))
  | _, _ => False
def fAll : DB
  | [.list xs], P => ofS (asBools xs) fun bs => P (.bool (bs.all id))
  | _, _ => False
theorem rc_any : RCall K (rAny K) fAny := by
  refine ⟨fun {xs P P'} hp h => ?_, fun {B F ρ σ H vs xs Q P} S r h k => ?_⟩
  · unfold fAny at h ⊢
    split at h
    · exact ofS.mono (fun ns h => hp _ h) h
    · exact h.elim
  · unfold fAny at h
    split at h
    · obtain ⟨ns, e, h⟩ := ofS.eq h
      rw [asBools_eq e] at r
      obtain ⟨v, rfl, r1⟩ := r.one
      obtain ⟨a, ws, rfl, ha, r3⟩ := r1.list_inv
      rw [r3.bools] at ha
      exact ⟨a, ns, rfl, .inl (.inl (S.ex.on ha)), k _ h _ F H (Ex.refl _) S (.bool _)⟩
    · exact h.elim
theorem rc_all : RCall K (rAll K) fAll := by
  refine ⟨fun {xs P P'} hp h => ?_, fun {B F ρ σ H vs xs Q P} S r h k => ?_⟩
  · unfold fAll at h ⊢
    split at h
    · exact ofS.mono (fun ns h => hp _ h) h
    · exact h.elim
  · unfold fAll at h
    split at h
    · obtain ⟨ns, e, h⟩ := ofS.eq h
      rw [asBools_eq e] at r
      obtain ⟨v, rfl, r1⟩ := r.one
      obtain ⟨a, ws, rfl, ha, r3⟩ := r1.list_inv
      rw [r3.bools] at ha
      exact ⟨a, ns, rfl, .inl (.inl (S.ex.on ha)), k _ h _ F H (Ex.refl _) S (.bool _)⟩
    · exact h.elim
def fLen : DB
  | [.list xs], P => P (.int xs.length)
  | [.rol xs], P => P (.int xs.length)
  | [.tuple xs], P => P (.int xs.length)
  | [.str x], P => x.length ≤ sizeLine ∧ P (.int x.length)
  | _, _ => False
theorem rc_len : RCall K (fun xs H Q => ∃ x n, xs = [x] ∧ LenV K x H n ∧ Q (V.int n) H) fLen := by
  refine ⟨fun {xs P P'} hp h => ?_, fun {B F ρ σ H vs xs Q P} S r h k => ?_⟩
  · unfold fLen at h ⊢; split at h <;> first | exact hp _ h | exact ⟨h.1, hp _ h.2⟩ | exact h.elim
  · unfold fLen at h
    split at h
    · obtain ⟨v, rfl, r1⟩ := r.one
      obtain ⟨a, ws, rfl, ha, r3⟩ := r1.list_inv
      exact ⟨_, _, rfl, .inl ⟨ws, .inl (.inl (S.ex.on ha)), rfl⟩, by rw [r3.length]; exact k _ h _ F H (Ex.refl _) S (.int _)⟩
    · obtain ⟨v, rfl, r1⟩ := r.one
      obtain ⟨a, ws, rfl, ha, r3⟩ := r1.rol_inv
      exact ⟨_, _, rfl, .inl ⟨ws, xl_l S.ex ha, rfl⟩, by rw [r3.length]; exact k _ h _ F H (Ex.refl _) S (.int _)⟩
    · obtain ⟨v, rfl, r1⟩ := r.one
      obtain ⟨a, ws, rfl, ha, r3⟩ := r1.tuple_inv
      exact ⟨_, _, rfl, .inr ⟨ws, xl_t S.ex ha, rfl⟩, by rw [r3.length]; exact k _ h _ F H (Ex.refl _) S (.int _)⟩
    · obtain ⟨v, rfl, r1⟩ := r.one
      cases r1.str_inv
      exact ⟨_, _, rfl, ⟨h.1, rfl⟩, k _ h.2 _ F H (Ex.refl _) S (.int _)⟩
    · exact h.elim
end
/-! ### isinstance -/
/-- the name of a datum's built-in type -/
def D.tn : D → Option String
  | .none => some "NoneType"
  | .bool _ => some "bool"
  | .int _ => some "int"
  | .str _ => some "str"
  | .list _ => some "list"
  | .rol _ => some "list"
  | .tuple _ => some "tuple"
  | .dict _ => some "dict"
  | .dictT _ => some "dict"
  | .dictN _ => some "dict"
  | .ob _ _ _ => Option.none
def subTy (a T : String) : Option Bool := if a ∈ ["NoneType", "bool", "int", "str", "list", "tuple", "dict"] then (if T ∈ ["bool", "int", "str", "list", "tuple", "dict"] then some (a == T || (a == "bool" && T == "int")) else none) else none
theorem subTy_kit {K : PySem.W.Frag} {a T : String} {b : Bool} (h : subTy a T = some b) : PySem.W.kitOne K (.type a) (.type T) = some b := by
  unfold subTy at h
  split at h
  · split at h
    · rename_i h1 h2
      simp only [List.mem_cons, List.not_mem_nil, or_false] at h1 h2
      rcases h1 with rfl | rfl | rfl | rfl | rfl | rfl | rfl <;> rcases h2 with rfl | rfl | rfl | rfl | rfl | rfl <;> (cases h; exact kit_ty (by decide +kernel))
    · cases h
  · cases h
end DL
set_option Elab.async false
set_option linter.all false
set_option maxRecDepth 100000
set_option maxHeartbeats 1000000
/-! DL18: isinstance; dict displays; several targets. -/
namespace DL
open PySem L2 Evl
def D.tn2 : D → Option String
  | .dictT _ => Option.none
  | .dictN _ => Option.none
  | d => d.tn
theorem tyX_rep {K : PySem.W.Frag} {F H : Hp} {v : V} {d : D} {a : String} (e : ExL F H) (r : Rep K F v d) (h : d.tn2 = some a) : TyX K H v (.type a) := by
  cases d with
  | none => cases h; cases r; exact .base .non
  | bool b => cases h; cases r; exact .base (.bl _)
  | int i => cases h; cases r; exact .base (.int _)
  | str x => cases h; cases r; exact .base (.str _)
  | list xs => cases h; obtain ⟨p, ws, rfl, hp, _⟩ := r.list_inv; exact .base (.lst (e.on hp))
  | tuple xs => cases h; obtain ⟨p, ws, rfl, hp, _⟩ := r.tuple_inv2; exact .base (.tup (e.on hp))
  | rol xs =>
    cases h
    obtain ⟨p, ws, rfl, hp, _⟩ := r.rol_inv
    rcases hp with (hp | ⟨o, hp⟩) | ⟨o, its, n, hk, hc, _⟩
    · exact .base (.lst (e.on hp))
    · exact .base (.frz (e.on hp))
    · exact .kList hk hc
  | dict kvs =>
    cases h
    obtain ⟨p, ws, rfl, hp, _⟩ := r.dict_inv
    rcases e.rd hp with hp | ⟨o, hp⟩
    · exact .base (.dK hp)
    · exact .fDict hp
  | dictT kvs => cases h
  | dictN kvs => cases h
  | ob C lay xs => cases h
def isTy (T : String) (d : D) : Option Bool := d.tn2.bind fun a => subTy a T
def isTy2 (T U : String) (d : D) : Option Bool := (isTy T d).bind fun b => (isTy U d).map fun c => b || c
theorem isTy_kit {K : PySem.W.Frag} {F H : Hp} {v : V} {d : D} {T : String} {b : Bool} (e : ExL F H) (r : Rep K F v d) (h : isTy T d = some b) : ∃ t, d.tn2 = some t ∧ TyX K H v (.type t) ∧ PySem.W.kitOne K (.type t) (.type T) = some b := by
  unfold isTy at h
  cases q : d.tn2 with
  | none => rw [q] at h; cases h
  | some a =>
    rw [q] at h
    exact ⟨a, rfl, tyX_rep e r q, subTy_kit h⟩
def eIs (f : D → Option Bool) (de : DE) : DE := fun ρ X K => de ρ X fun d ρ1 => ofS (f d) fun b => K (.bool b) ρ1
section
variable {X : Cx} {W : WX} {a b c e : Expr} {da db de dk : DE} {dt : DT} {dn : NE} {das : DAs} {es : List Expr} {pos p p2 p3 p4 : Pos}
theorem mono_eIs {f : D → Option Bool} (m : MonoE de) : MonoE (eIs f de) := ⟨fun hx hk h => m.go hx (fun d ρ h => ofS.mono (fun b h => hk _ _ h) h) h⟩
theorem pe_ty {x : Str} {T : String} (hg : Gl X x) (hm : X.mg x = none) (hv : bootBuiltins x = some (.type T)) (hn : x ≠ "__name__" := by decide) (hd : (x == ("__debug__" : Str)) = false := by decide) : PE X (.Name x p) (tC (.ty T)) := pe_bltn hg hm hv rfl hn hd
theorem pd_isT {x : Str} {T : String} (hg : Gl X "isinstance") (hm : X.mg "isinstance" = none) (hgT : Gl X x) (hmT : X.mg x = none) (hv : bootBuiltins x = some (.type T)) (he : PD X W e de) (hn : x ≠ "__name__" := by decide) (hd : (x == ("__debug__" : Str)) = false := by decide)
    (h1 : starEach [.Name x p2] X.env = (false, eval (.Name x p2) X.env) :: starEach [] X.env := by rfl) (h2 : starEach [e, .Name x p2] X.env = (false, eval e X.env) :: starEach [.Name x p2] X.env := by rfl) (h3 : (backTo pos (starEach [.Name x p2] X.env)).any (·.1) = false := by rfl) :
    PD X W (.Call (.Name "isinstance" p) [e, .Name x p2] [] pos) (eIs (isTy T) de) :=
  ⟨mono_eIs he.mono, PE.imp (pe_callB call_isi hg hm rfl (pa_cons he.run (pa_cons (pe_ty hgT hmT hv hn hd) pa_nil h1) h2) (by decide) (by decide) h2 h3) fun σ H Q ⟨B, F, ρ, S, h⟩ => liftE.of he.mono (Ex.refl _) S h fun d ρ1 h v F1 H1 e1 S1 r1 => by
    obtain ⟨b, eb, h⟩ := ofS.eq h
    obtain ⟨t, _, ty, k⟩ := isTy_kit S1.ex r1 eb
    exact ⟨v, .ty T, .type t, .type T, b, rfl, .ty T, ty, k, h _ F1 H1 e1 S1 (.bool _)⟩⟩
theorem pd_isT2 {x y : Str} {T U : String} {x1} (hg : Gl X "isinstance") (hm : X.mg "isinstance" = none) (hgT : Gl X x) (hmT : X.mg x = none) (hv : bootBuiltins x = some (.type T)) (hgU : Gl X y) (hmU : X.mg y = none) (hvU : bootBuiltins y = some (.type U)) (he : PD X W e de)
    (hn : x ≠ "__name__" := by decide) (hd : (x == ("__debug__" : Str)) = false := by decide) (hn' : y ≠ "__name__" := by decide) (hd' : (y == ("__debug__" : Str)) = false := by decide)
    (h0 : starEach [.Name y p3] X.env = (false, eval (.Name y p3) X.env) :: starEach [] X.env := by rfl) (h0' : starEach [.Name x p2, .Name y p3] X.env = (false, eval (.Name x p2) X.env) :: starEach [.Name y p3] X.env := by rfl)
    (h1 : starEach [.Tuple [.Name x p2, .Name y p3] x1 p4] X.env = (false, eval (.Tuple [.Name x p2, .Name y p3] x1 p4) X.env) :: starEach [] X.env := by rfl) (h2 : starEach [e, .Tuple [.Name x p2, .Name y p3] x1 p4] X.env = (false, eval e X.env) :: starEach [.Tuple [.Name x p2, .Name y p3] x1 p4] X.env := by rfl)
    (h3 : (backTo pos (starEach [.Tuple [.Name x p2, .Name y p3] x1 p4] X.env)).any (·.1) = false := by rfl) :
    PD X W (.Call (.Name "isinstance" p) [e, .Tuple [.Name x p2, .Name y p3] x1 p4] [] pos) (eIs (isTy2 T U) de) :=
  ⟨mono_eIs he.mono, PE.imp (pe_callB call_isiT hg hm rfl (pa_cons he.run (pa_cons (pe_tup (pa_cons (pe_ty hgT hmT hv hn hd) (pa_cons (pe_ty hgU hmU hvU hn' hd') pa_nil h0) h0')) pa_nil h1) h2) (by decide) (by decide) h2 h3) fun σ H Q ⟨B, F, ρ, S, h⟩ => liftE.of he.mono (Ex.refl _) S h fun d ρ1 h v F1 H1 e1 S1 r1 => by
    obtain ⟨b, eb, h⟩ := ofS.eq h
    unfold isTy2 at eb
    cases q1 : isTy T d with
    | none => rw [q1] at eb; cases eb
    | some b1 =>
      cases q2 : isTy U d with
      | none => rw [q1, q2] at eb; cases eb
      | some b2 =>
        rw [q1, q2] at eb
        have eb : (b1 || b2) = b := by simpa using eb
        obtain ⟨t, ht, ty, k1⟩ := isTy_kit S1.ex r1 q1
        obtain ⟨t', ht', ty', k2⟩ := isTy_kit S1.ex r1 q2
        rw [ht] at ht'
        cases ht'
        refine ⟨by show 2 ≤ sizeLine; rw [sizeLine_eq]; decide, fun q hq => ?_⟩
        obtain ⟨e2, S2⟩ := S1.alloc (o := .tup [.ty T, .ty U]) hq
        refine ⟨v, q, [.ty T, .ty U], .type t, [.type T, .type U], b, rfl, upd_same, .cons (.ty T) (.cons (.ty U) .nil), tyX_rep S2.ex (r1.mono e2) ht, ?_, h _ _ _ (e1.trans e2) S2 (.bool _)⟩
        subst eb
        refine kitAny_cons k1 (fun z => ?_) (fun z => by rw [z]; rfl)
        subst z
        refine kitAny_cons k2 (fun z => ?_) (fun z => by rw [z]; rfl)
        subst z
        rfl⟩
end
end DL
set_option Elab.async false
set_option linter.all false
set_option maxRecDepth 100000
set_option maxHeartbeats 1000000
/-! DL19: dict displays of one pair. -/
namespace DL
open PySem L2 Evl PySem.Spec PyProof.Rows
section
variable {X : Cx} {pins : List (Addr × Obj)} {σ : L2.St} {H : Hp} {s : Shared} {A : Around} {E : Value → Shared → Prop} {a b : Addr}
theorem d_dictSetT {kvs : List (List Key × V)} {k : List Key} {v : V} {r : Value} {Q : Unit → Shared → Prop} (hu : X.A.units + 1 < cLine) (I : Inv X pins σ H s) (e : H a = some (.dT kvs)) (eb : H b = some (.tup (k.map kV))) (l : kvs.length < sizeLine) (rv : RelV v r)
    (h : ∀ s', Inv X pins σ (upd H a (.dT (putK kvs k v))) s' → Q () s') : wpAny (model X.prog X.w) X.A (dictSet a (.ref b) r) Q E s := by
  obtain ⟨z, hd, xs, rel, dd⟩ := dt_of I.hok e
  have hz : xs.length ≤ sizeLine := by rw [← Paired.length rel]; exact z
  have hl : (putK kvs k v).length ≤ sizeLine := by have := length_putK kvs k v; omega
  refine wpAny_dictSet_heap (hsz := hz) (knd := tupleKind (mixKind X.prog X.w)) (show _ by exact Nat.lt_of_succ_lt hu) (key_of I.hok eb) dd fun h' dd' hs => h _ ?_
  obtain ⟨q, es, ep, hq, h2, h3, h4, _, h5⟩ := dd'
  refine d_write I (by rw [e]; exact True.intro) hs ⟨q, hq⟩ ⟨hl, hd, _, (rel.put k eb rv).keeps fun c ys ec => ?_, q, es, ep, hq, h2, h3, h4, h5⟩
  rw [upd_ne (ne_of ec e (fun z => nomatch z))]
  exact ec
def tD1T (tk tv : TE) : TE := fun σ H Q => ∀ p, H p = none → tPairs [(tk, tv)] σ (upd H p (.dT [])) fun ps H2 => H2 p = some (.dT []) ∧ ∃ b ks y, ps = [(V.ref b, y)] ∧ H2 b = some (.tup (List.map kV ks)) ∧ Q (.ref p) (upd H2 p (.dT [(ks, y)]))
theorem pe_disp1T {k v : Expr} {tk tv : TE} {pos : Pos} (hu : X.A.units + 1 < cLine) (hk : PE X k tk) (hv : PE X v tv) : PE X (.Dict [some k] [v] pos) (tD1T tk tv) := by
  refine ⟨fun pins s σ H Q I q => ?_⟩
  have hn := I.hok.fresh (Nat.le_refl s.heap.objs.size)
  have I1 := I.laid (a := s.heap.objs.size) (o := .dT []) (h' := s.heap.push { cls := .type "dict", data := .dict #[] }) (t' := s.toks) (fun _ _ q => Heap.get?_push_of_some _ q) (Nat.le_refl _) (dt_empty s.heap I.big)
  refine wpAny_Dict_any rfl rfl (by simp) (by simp) (thn ((pps_cons hk hv pps_nil).run pins _ σ _ _ I1 (q _ hn)) fun ws s2 h2 => ?_)
  obtain ⟨ps, H2, I2, rel, hp, b, ks, y, eps, hb, q2⟩ := h2
  subst eps
  cases rel with
  | @cons p0 q0 _ _ h t =>
    cases t
    obtain ⟨u, r⟩ := q0
    obtain ⟨ru, rr⟩ := h
    obtain rfl : u = Value.ref b := ru
    unfold storeAll
    rw [List.forIn_cons]
    refine wpAny_bind (wpAny_bind (d_dictSetT hu I2 hp hb (by rw [sizeLine_eq]; decide) rr fun s3 I3 => wpAny_pure ?_))
    refine wpAny_pure ⟨.ref s.heap.objs.size, _, I3, rfl, q2⟩
end
/-- {k: v}, the key an int or a text -/
def nD1K (dk dv : DE) : NE := fun ρ X K => dk ρ X fun k ρ1 => dv ρ1 X fun v ρ2 => ofS k.key fun kk => K (.dct [(kk, v)]) ρ2
/-- .. a tuple of such -/
def nD1T (dk dv : DE) : NE := fun ρ X K => dk ρ X fun k ρ1 => dv ρ1 X fun v ρ2 => ofS k.keys fun kk => K (.dctT [(kk, v)]) ρ2
section
variable {X : Cx} {W : WX} {a b : Expr} {dk dv : DE} {pos : Pos}
theorem xl_prot {K : PySem.W.Frag} {B : Base} {F : Hp} {σ : L2.St} {p : Addr} {o : HO} {x : Exn} {ρ' : Env} (gp : B.G p = none) (f0 : B.F0 p = none) (nt : ∀ vs, o ≠ .tup vs) (h : xl K W B F σ x ρ') : xl K W (B.prot p o) F σ x ρ' :=
  fun F' H' dd v e S h1 r => h F' H' dd v e (S.unprot gp f0 nt).1 h1 r
/-- what is evaluated while a new object stands aside -/
theorem aside {K : PySem.W.Frag} {B : Base} {F : Hp} {ρ : Env} {σ : L2.St} {H : Hp} {p : Addr} {o : HO} (S : St K B F ρ σ H) (hp : H p = none) (nt : ∀ vs, o ≠ .tup vs) : St K (B.prot p o) F ρ σ (upd H p o) ∧ B.G p = none ∧ B.F0 p = none ∧ B.H0 p = none := by
  obtain ⟨S1, fp, gp, h0⟩ := S.keepNew (o := o) hp
  refine ⟨S1.prot upd_same fp fun j hj z => ?_, gp, fresh_back S.ge fp, h0⟩
  cases hs : ρ.getD j .un with
  | un => rw [hs] at hj; cases hj
  | fz d => rw [hs] at hj; cases hj
  | ow b c =>
    obtain ⟨a', e1, ⟨_, _, o', ho', _⟩, _⟩ := S.ow hs
    rw [z] at e1
    have : p = a' := by simpa using e1
    subst this
    rw [hp] at ho'; cases ho'
/-- .. and then taken up, rewritten -/
theorem takeUp {K : PySem.W.Frag} {B : Base} {F : Hp} {ρ : Env} {σ : L2.St} {H : Hp} {p : Addr} {o o' : HO} {c : Ct} (S : St K (B.prot p o) F ρ σ H) (gp : B.G p = none) (f0 : B.F0 p = none) (h0 : B.H0 p = none) (nt : ∀ vs, o ≠ .tup vs) (hc : CtR K F p o' c) :
    H p = some o ∧ St K B F ρ σ (upd H p o') ∧ NwR K B F ρ σ (upd H p o') (.ref p) c := by
  obtain ⟨S1, hp, fp, no⟩ := S.unprot gp f0 nt
  refine ⟨hp, ⟨S1.ex.upd fp, fun a u h => ?_, S1.new, S1.ge, S1.thr.upd fun vs z => absurd z (hc.noTup vs), S1.len, fun i => ?_, S1.own⟩, ⟨p, rfl, ⟨fp, gp, o', upd_same, hc⟩, h0, no⟩⟩
  · have q : a ≠ p := fun z => by rw [z, gp] at h; cases h
    rw [upd_ne q]; exact S1.out a u h
  · have s := S1.sl i
    cases hs : ρ.getD i .un with
    | un => trivial
    | fz d => rw [hs] at s; exact s
    | ow b c =>
      rw [hs] at s
      obtain ⟨a, e1, ⟨nf, ng, u, hu, hc⟩, h2, h3⟩ := s
      have q : a ≠ p := fun z => no i (by rw [hs]; rfl) (by rw [e1, z])
      exact ⟨a, e1, ⟨nf, ng, u, by rw [upd_ne q]; exact hu, hc⟩, h2, h3⟩
theorem pn_disp1K (ha : PD X W a dk) (hb : PD X W b dv) : PN X W (.Dict [some a] [b] pos) (nD1K dk dv) := by
  refine ⟨⟨fun hx hk h => ha.mono.go hx (fun k ρ h => hb.mono.go hx (fun v ρ h => ofS.mono (fun kk h => hk _ _ h) h) h) h⟩, PE.imp (pe_disp (pps_cons ha.run hb.run pps_nil) rfl rfl (by simp) (by simp)) fun σ H Q ⟨B, F, ρ, S, h⟩ p hp => ?_⟩
  obtain ⟨S1, gp, f0, h0⟩ := aside S hp (o := .dK []) (fun _ z => nomatch z)
  refine liftE.of ha.mono (Ex.refl _) S1 (ha.mono.go (fun x ρ h => xl_prot gp f0 (fun _ z => nomatch z) h) (fun _ _ h => h) h) fun k ρ1 h v F1 H1 e1 S1 r1 => ?_
  refine liftE.of hb.mono e1 S1 (hb.mono.go (fun x ρ h => xl_prot gp f0 (fun _ z => nomatch z) h) (fun _ _ h => h) h) fun y ρ2 h w F2 H2 e2 S2 r2 => ?_
  obtain ⟨kk, ek, h⟩ := ofS.eq h
  have hc : CtR X.K F2 p (.dK [(kk, w)]) (.dct [(kk, y)]) := ⟨_, rfl, .cons r2 .nil⟩
  obtain ⟨hp2, S3, n⟩ := takeUp S2 gp f0 h0 (fun _ z => nomatch z) hc
  exact ⟨hp2, [(kk, w)], by rw [key_rep r1 ek]; rfl, by simp, h _ _ _ (e1.trans e2) S3 n⟩
theorem pn_disp1T {k : Nat} (hr : Room k X.A) (ha : PD X W a dk) (hb : PD X W b dv) : PN X W (.Dict [some a] [b] pos) (nD1T dk dv) := by
  refine ⟨⟨fun hx hk h => ha.mono.go hx (fun k ρ h => hb.mono.go hx (fun v ρ h => ofS.mono (fun kk h => hk _ _ h) h) h) h⟩, PE.imp (pe_disp1T (hu_of hr) ha.run hb.run) fun σ H Q ⟨B, F, ρ, S, h⟩ p hp => ?_⟩
  obtain ⟨S1, gp, f0, h0⟩ := aside S hp (o := .dT []) (fun _ z => nomatch z)
  refine liftE.of ha.mono (Ex.refl _) S1 (ha.mono.go (fun x ρ h => xl_prot gp f0 (fun _ z => nomatch z) h) (fun _ _ h => h) h) fun k ρ1 h v F1 H1 e1 S1 r1 => ?_
  refine liftE.of hb.mono e1 S1 (hb.mono.go (fun x ρ h => xl_prot gp f0 (fun _ z => nomatch z) h) (fun _ _ h => h) h) fun y ρ2 h w F2 H2 e2 S2 r2 => ?_
  obtain ⟨kk, ek, h⟩ := ofS.eq h
  have hc : CtR X.K F2 p (.dT [(kk, w)]) (.dctT [(kk, y)]) := ⟨_, rfl, .cons r2 .nil⟩
  obtain ⟨hp2, S3, n⟩ := takeUp S2 gp f0 h0 (fun _ z => nomatch z) hc
  obtain ⟨q, rfl, hq⟩ := keys_rep r1 ek
  exact ⟨hp2, q, kk, w, rfl, S2.ex.on (e2 _ _ hq), h _ _ _ (e1.trans e2) S3 n⟩
end
end DL
set_option Elab.async false
set_option linter.all false
set_option maxRecDepth 100000
set_option maxHeartbeats 1000000
/-! DL20: a, b = e, f: some of the values new objects. -/
namespace DL
open PySem L2 Evl
inductive Itm where
  | d (x : D)
  | c (c : Ct)
def ItmR (K : PySem.W.Frag) (B : Base) (F : Hp) (ρ : Env) (σ : L2.St) (H : Hp) : List V → List Itm → Prop
  | [], [] => True
  | v :: vs, .d x :: its => Rep K F v x ∧ ItmR K B F ρ σ H vs its
  | v :: vs, .c c :: its => NwR K B F ρ σ H v c ∧ (∀ (j : Nat) c', its[j]? = some (.c c') → vs[j]? ≠ some v) ∧ ItmR K B F ρ σ H vs its
  | _, _ => False
abbrev DM := Env → XP → (List Itm → Env → Prop) → Prop
structure MonoM (de : DM) : Prop where
  go : ∀ {ρ X X' K K'}, (∀ x ρ, X x ρ → X' x ρ) → (∀ r ρ, K r ρ → K' r ρ) → de ρ X K → de ρ X' K'
def liftM (K : PySem.W.Frag) (W : WX) (dm : DM) : TA := fun σ H Q => ∃ B F ρ, St K B F ρ σ H ∧ dm ρ (xl K W B F σ) fun its ρ' => ∀ vs F' H', Ex F F' → St K B F' ρ' σ H' → ItmR K B F' ρ' σ H' vs its → Q vs H'
structure PM (X : Cx) (W : WX) (es : List Expr) (dm : DM) : Prop where
  mono : MonoM dm
  run : PA X es (liftM X.K W dm)
section
variable {K : PySem.W.Frag} {W : WX} {B : Base} {F F0 F' : Hp} {ρ ρ' : Env} {σ : L2.St} {H : Hp}
theorem liftM.of {dm : DM} {k : List Itm → Env → Prop} {Q : List V → Hp → Prop} (m : MonoM dm) (e : Ex F0 F) (S : St K B F ρ σ H) (h : dm ρ (xl K W B F0 σ) k) (hk : ∀ r ρ1, k r ρ1 → ∀ v F1 H1, Ex F F1 → St K B F1 ρ1 σ H1 → ItmR K B F1 ρ1 σ H1 v r → Q v H1) : liftM K W dm σ H Q :=
  ⟨B, F, ρ, S, m.go (xl_up e) hk h⟩
theorem ItmR.length : ∀ {vs : List V} {its : List Itm}, ItmR K B F ρ σ H vs its → vs.length = its.length
  | [], [], _ => rfl
  | _ :: _, .d _ :: _, h => by simp [ItmR.length h.2]
  | _ :: _, .c _ :: _, h => by simp [ItmR.length h.2.2]
  | [], _ :: _, h => by simp [ItmR] at h
  | _ :: _, [], h => by simp [ItmR] at h
theorem ItmR.unprot {p : Addr} {o : HO} : ∀ {vs : List V} {its : List Itm}, ItmR K (B.prot p o) F ρ σ H vs its → ItmR K B F ρ σ H vs its ∧ ∀ (j : Nat) c', its[j]? = some (.c c') → vs[j]? ≠ some (.ref p)
  | [], [], _ => ⟨trivial, fun j c h => by simp at h⟩
  | v :: vs, .d x :: its, h => by
    obtain ⟨a, b⟩ := ItmR.unprot h.2
    refine ⟨⟨h.1, a⟩, fun j c hj => ?_⟩
    cases j with
    | zero => simp at hj
    | succ j => simpa using b j c (by simpa using hj)
  | v :: vs, .c c :: its, h => by
    obtain ⟨n, no, h⟩ := h
    obtain ⟨a, b⟩ := ItmR.unprot h
    obtain ⟨q, rfl, ⟨nf, ng, ob⟩, h0, no2⟩ := n.ex
    have ng' : upd B.G p o q = none := ng
    have hq : q ≠ p := fun z => by rw [z, upd_same] at ng'; cases ng'
    rw [upd_ne hq] at ng'
    have h0' : upd B.H0 p o q = none := h0
    rw [upd_ne hq] at h0'
    refine ⟨⟨⟨q, rfl, ⟨nf, ng', ob⟩, h0', no2⟩, no, a⟩, fun j c hj => ?_⟩
    cases j with
    | zero => simpa using hq
    | succ j => simpa using b j c (by simpa using hj)
  | [], _ :: _, h => by simp [ItmR] at h
  | _ :: _, [], h => by simp [ItmR] at h
def setItms : List Nat → List Itm → Env → Env
  | i :: is, .d x :: its, ρ => setItms is its (ρ.set i (.fz x))
  | i :: is, .c c :: its, ρ => setItms is its (ρ.set i (.ow false c))
  | _, _, ρ => ρ
def setVs : List Nat → List V → L2.St → L2.St
  | i :: is, v :: vs, σ => setVs is vs (σ.set i (some v))
  | _, _, σ => σ
theorem ItmR.slots : ∀ {vs : List V} {its : List Itm} {ρ' : Env} {σ' : L2.St} , (∀ (j : Nat) c, its[j]? = some (.c c) → ∀ a, vs[j]? = some (.ref a) → (∀ i, isOw (ρ.getD i .un) = true → σ[i]? ≠ some (some (.ref a))) → ∀ i, isOw (ρ'.getD i .un) = true → σ'[i]? ≠ some (some (.ref a))) → ItmR K B F ρ σ H vs its → ItmR K B F ρ' σ' H vs its
  | [], [], _, _, _, _ => trivial
  | v :: vs, .d x :: its, ρ', σ', hs, h => ⟨h.1, ItmR.slots (fun j c e => hs (j + 1) c (by simpa using e)) h.2⟩
  | v :: vs, .c c :: its, ρ', σ', hs, h => by
    obtain ⟨n, no, h⟩ := h
    obtain ⟨a, rfl, ow, h0, no2⟩ := n.ex
    exact ⟨⟨a, rfl, ow, h0, hs 0 c rfl a rfl no2⟩, no, ItmR.slots (fun j c e => hs (j + 1) c (by simpa using e)) h⟩
  | [], _ :: _, _, _, _, h => by simp [ItmR] at h
  | _ :: _, [], _, _, _, h => by simp [ItmR] at h
theorem St.setItms : ∀ {is : List Nat} {vs : List V} {its : List Itm} {ρ : Env} {σ : L2.St}, is.length = its.length → St K B F ρ σ H → ItmR K B F ρ σ H vs its → St K B F (setItms is its ρ) (setVs is vs σ) H
  | [], [], [], _, _, _, S, _ => S
  | i :: is, v :: vs, .d x :: its, ρ, σ, hl, S, h => by
    show St K B F (DL.setItms is its (ρ.set i (.fz x))) (setVs is vs (σ.set i (some v))) H
    refine St.setItms (by simpa using hl) (S.set_fz' h.1) (ItmR.slots (fun j c e a ha no k hk z => ?_) h.2)
    by_cases q : i = k
    · subst q
      by_cases hi : i < ρ.length
      · rw [getD_set_self hi] at hk; cases hk
      · rw [List.set_eq_of_length_le (by omega)] at hk
        rw [List.set_eq_of_length_le (by rw [S.len]; omega)] at z
        exact no i hk z
    · rw [getD_set_ne q] at hk
      rw [List.getElem?_set_ne q] at z
      exact no k hk z
  | i :: is, v :: vs, .c c :: its, ρ, σ, hl, S, h => by
    show St K B F (DL.setItms is its (ρ.set i (.ow false c))) (setVs is vs (σ.set i (some v))) H
    refine St.setItms (by simpa using hl) (S.set_ow' h.1) (ItmR.slots (fun j c e a ha no k hk z => ?_) h.2.2)
    by_cases q : i = k
    · subst q
      by_cases hi : i < ρ.length
      · rw [List.getElem?_set_self (by rw [S.len]; exact hi)] at z
        have : v = .ref a := by simpa using z
        exact h.2.1 j c e (by rw [ha, this])
      · rw [List.set_eq_of_length_le (by omega)] at hk
        rw [List.set_eq_of_length_le (by rw [S.len]; omega)] at z
        exact no i hk z
    · rw [getD_set_ne q] at hk
      rw [List.getElem?_set_ne q] at z
      exact no k hk z
  | [], _, _ :: _, _, _, hl, _, _ => by simp at hl
  | _ :: _, _, [], _, _, hl, _, _ => by simp at hl
  | [], _ :: _, [], _, _, _, _, h => by simp [ItmR] at h
  | _ :: _, [], _ :: _, _, _, _, _, h => by simp [ItmR] at h
end
def mNil : DM := fun ρ _ K => K [] ρ
def mD (de : DE) (dm : DM) : DM := fun ρ X K => de ρ X fun x ρ1 => dm ρ1 X fun its ρ2 => K (.d x :: its) ρ2
def mN (dn : NE) (dm : DM) : DM := fun ρ X K => dn ρ X fun c ρ1 => dm ρ1 X fun its ρ2 => K (.c c :: its) ρ2
def dPar (is : List Nat) (dm : DM) : DS := fun ρ P => dm ρ P.ex fun its ρ1 => is.length = its.length ∧ P.nx (setItms is its ρ1)
section
variable {X : Cx} {W : WX} {a b c e : Expr} {de : DE} {dn : NE} {dm : DM} {es : List Expr} {pos : Pos}
theorem mono_dPar {is : List Nat} (m : MonoM dm) : MonoS (dPar is dm) := ⟨fun le h => m.go le.ex (fun its ρ h => ⟨h.1, le.nx _ h.2⟩) h⟩
theorem pm_nil : PM X W [] mNil := ⟨⟨fun hx hk h => hk _ _ h⟩, PA.imp pa_nil fun σ H Q ⟨B, F, ρ, S, h⟩ => h [] F H (Ex.refl _) S trivial⟩
theorem pm_d (h1 : PD X W a de) (h2 : PM X W es dm) (hs : starEach (a :: es) X.env = (false, eval a X.env) :: starEach es X.env := by rfl) : PM X W (a :: es) (mD de dm) :=
  ⟨⟨fun hx hk h => h1.mono.go hx (fun x ρ h => h2.mono.go hx (fun xs ρ h => hk _ _ h) h) h⟩, PA.imp (pa_cons h1.run h2.run hs) fun σ H Q ⟨B, F, ρ, S, h⟩ => liftE.of h1.mono (Ex.refl _) S h fun x ρ1 h v F1 H1 e1 S1 r1 =>
    liftM.of h2.mono e1 S1 h fun xs ρ2 h vs F2 H2 e2 S2 r2 => h (v :: vs) F2 H2 (e1.trans e2) S2 ⟨r1.mono e2, r2⟩⟩
theorem pm_n (h1 : PN X W a dn) (h2 : PM X W es dm) (hs : starEach (a :: es) X.env = (false, eval a X.env) :: starEach es X.env := by rfl) : PM X W (a :: es) (mN dn dm) :=
  ⟨⟨fun hx hk h => h1.mono.go hx (fun x ρ h => h2.mono.go hx (fun xs ρ h => hk _ _ h) h) h⟩, PA.imp (pa_cons h1.run h2.run hs) fun σ H Q ⟨B, F, ρ, S, h⟩ => liftN.of h1.mono (Ex.refl _) S h fun c ρ1 h v F1 H1 e1 S1 n => by
    obtain ⟨p, rfl, ⟨nf, ng, o, ho, hc⟩, h0, no⟩ := n.ex
    have f0 : B.F0 p = none := fresh_back S1.ge nf
    have S1' := S1.prot ho nf no
    refine liftM.of h2.mono e1 S1' (h2.mono.go (fun x ρ h => xl_prot ng f0 hc.noTup h) (fun _ _ h => h) h) fun its ρ2 h vs F2 H2 e2 S2 r2 => ?_
    obtain ⟨S3, hp, fp, no3⟩ := S2.unprot ng f0 hc.noTup
    obtain ⟨r3, nn⟩ := r2.unprot
    exact h (.ref p :: vs) F2 H2 (e1.trans e2) S3 ⟨⟨p, rfl, ⟨fp, ng, o, hp, hc.mono e2⟩, h0, no3⟩, nn, r3⟩⟩
theorem len2 {α : Type} {xs : List α} (h : xs.length = 2) : ∃ a b, xs = [a, b] := by
  match xs, h with
  | [a, b], _ => exact ⟨a, b, rfl⟩
theorem len3 {α : Type} {xs : List α} (h : xs.length = 3) : ∃ a b c, xs = [a, b, c] := by
  match xs, h with
  | [a, b, c], _ => exact ⟨a, b, c, rfl⟩
theorem pds_par2 {i j : Nat} {x y : Str} {px py pt : Pos} {kt k2 pt2} (hc : X.calm = true) (hN : X.N.Nodup) (hi : X.N[i]? = some x) (hj : X.N[j]? = some y) (hij : i ≠ j)
    (hx : X.env.scope.names.lookup x = some .local) (hy : X.env.scope.names.lookup y = some .local) (ha : PM X W [a, b] dm)
    (hw : swappedStores [.Tuple [.Name x px, .Name y py] kt pt] (.Tuple [a, b] k2 pt2) X.env = pure (some [x, y]))
    (hs : swapsWithSole [.Tuple [.Name x px, .Name y py] kt pt] (.Tuple [a, b] k2 pt2) pos.line X.env = pure false := by rfl) : PDS X W (.Assign [.Tuple [.Name x px, .Name y py] kt pt] (.Tuple [a, b] k2 pt2) pos) (dPar [i, j] dm) :=
  ⟨mono_dPar ha.mono, PS.imp (ps_par hc hN hi hj hij hx hy ha.run hw hs) fun D σ H ⟨B, F, ρ, S, h⟩ => ⟨B, F, ρ, S, ha.mono.go ex_xl (fun its ρ1 h vs F1 H1 e1 S1 r1 => by
    obtain ⟨hl, h⟩ := h
    obtain ⟨v, w, rfl⟩ := len2 (by rw [r1.length, ← hl]; rfl)
    exact ⟨v, w, rfl, h F1 _ H1 e1 (S1.setItms hl r1)⟩) h⟩⟩
theorem pds_par3 {i j l : Nat} {x y z : Str} {px py pz pt : Pos} {kt k2 pt2} (hc : X.calm = true) (hN : X.N.Nodup) (hi : X.N[i]? = some x) (hj : X.N[j]? = some y) (hl : X.N[l]? = some z) (hij : i ≠ j) (hil : i ≠ l) (hjl : j ≠ l)
    (hx : X.env.scope.names.lookup x = some .local) (hy : X.env.scope.names.lookup y = some .local) (hz : X.env.scope.names.lookup z = some .local) (ha : PM X W [a, b, c] dm)
    (hw : swappedStores [.Tuple [.Name x px, .Name y py, .Name z pz] kt pt] (.Tuple [a, b, c] k2 pt2) X.env = pure (some [x, y, z]))
    (hs : swapsWithSole [.Tuple [.Name x px, .Name y py, .Name z pz] kt pt] (.Tuple [a, b, c] k2 pt2) pos.line X.env = pure false := by rfl) : PDS X W (.Assign [.Tuple [.Name x px, .Name y py, .Name z pz] kt pt] (.Tuple [a, b, c] k2 pt2) pos) (dPar [i, j, l] dm) :=
  ⟨mono_dPar ha.mono, PS.imp (ps_par3 hc hN hi hj hl hij hil hjl hx hy hz ha.run hw hs) fun D σ H ⟨B, F, ρ, S, h⟩ => ⟨B, F, ρ, S, ha.mono.go ex_xl (fun its ρ1 h vs F1 H1 e1 S1 r1 => by
    obtain ⟨hl, h⟩ := h
    obtain ⟨v, w, u, rfl⟩ := len3 (by rw [r1.length, ← hl]; rfl)
    exact ⟨v, w, u, rfl, h F1 _ H1 e1 (S1.setItms hl r1)⟩) h⟩⟩
/-- the targets names, by way of a tuple -/
structure PNs (X : Cx) (tgs : List Expr) (is : List Nat) (g : TGs) : Prop where
  pg : PGs X tgs g
  run : ∀ vs σ H Q, vs.length = is.length → Q (setVs is vs σ) H → g vs σ H Q
theorem pns_nil : PNs X [] [] gNil := ⟨pgs_nil, fun vs σ H Q hl q => by
  have : vs = [] := List.length_eq_zero_iff.mp hl
  subst this
  exact ⟨rfl, q⟩⟩
theorem pns_cons {i : Nat} {is : List Nat} {x : Str} {p : Pos} {tgs : List Expr} {g : TGs} (h : PNs X tgs is g) (hN : X.N.Nodup) (hi : X.N[i]? = some x) (hx : Loc X.env.scope x) (hf : X.fn x = true ∨ X.env.scope.names.lookup x = some .local := by first | exact .inl rfl | exact .inr rfl | assumption)
    (hs : (assignEach (.Name x p :: tgs) X.env).map (·.2) = assign (.Name x p) X.env :: (assignEach tgs X.env).map (·.2) := by rfl) : PNs X (.Name x p :: tgs) (i :: is) (gCons (gName i) g) :=
  ⟨pgs_cons (pg_name hN hi hx hf) h.pg hs, fun vs σ H Q hl q => by
    cases vs with
    | nil => simp at hl
    | cons v vs => exact ⟨v, vs, rfl, h.run vs _ H Q (by simpa using hl) q⟩⟩
theorem pds_parT {tgs : List Expr} {is : List Nat} {g : TGs} {kt : Nat} {pt : Pos} {x1} {p2 : Pos} {n : Nat} (hc : X.calm = true) (hl : is.length = n) (hn4 : n ≤ 1000) (hg : PNs X tgs is g) (ha : PM X W es dm) (hs : swapsWithSole [.Tuple tgs kt pt] (.Tuple es x1 p2) pos.line X.env = pure false := by rfl) (hw : swappedStores [.Tuple tgs kt pt] (.Tuple es x1 p2) X.env = pure none := by rfl)
    (h1 : (assignEach [.Tuple tgs kt pt] X.env).map (·.2) = [assign (.Tuple tgs kt pt) X.env] := by rfl) (hn : (assignEach tgs X.env).length = n := by rfl) (hst : (assignEach tgs X.env).findIdx? (·.1) = none := by rfl) :
    PDS X W (.Assign [.Tuple tgs kt pt] (.Tuple es x1 p2) pos) (dPar is dm) :=
  ⟨mono_dPar ha.mono, PS.imp (ps_asg (pe_tup ha.run) (pg_tup hc hg.pg hn hst) hs hw h1) fun D σ H ⟨B, F, ρ, S, h⟩ => ⟨B, F, ρ, S, ha.mono.go ex_xl (fun its ρ1 h vs F1 H1 e1 S1 r1 => by
    obtain ⟨hl2, h⟩ := h
    have hvl : vs.length = n := by rw [r1.length, ← hl2, hl]
    refine ⟨by rw [hvl, sizeLine_eq]; omega, fun p hp => ?_⟩
    obtain ⟨S2, fp, gp, h0⟩ := S1.keepNew (o := .tup vs) hp
    refine ⟨p, vs, rfl, .inl (.inl upd_same), hvl, hg.run vs _ _ _ (by rw [hvl, hl]) ?_⟩
    refine h F1 _ _ e1 (S2.setItms hl2 ?_)
    have up : ∀ {vs : List V} {its : List Itm} {w : List V}, ItmR X.K B F1 ρ1 σ H1 vs its → ItmR X.K B F1 ρ1 σ (upd H1 p (.tup w)) vs its := by
      intro vs its w
      induction vs generalizing its with
      | nil => intro h; cases its <;> exact h
      | cons v vs ih =>
        intro h
        cases its with
        | nil => exact h
        | cons i its =>
          cases i with
          | d x => exact ⟨h.1, ih h.2⟩
          | c c =>
            obtain ⟨n, no, h⟩ := h
            obtain ⟨a, rfl, ow, h0, no2⟩ := n.ex
            obtain ⟨o, ho, hc⟩ := ow.ob
            have q : a ≠ p := ne_of_none ho hp
            exact ⟨⟨a, rfl, ow.up q, h0, no2⟩, no, ih h⟩
    exact up r1) h⟩⟩
end
end DL
set_option Elab.async false
set_option linter.all false
set_option maxRecDepth 100000
set_option maxHeartbeats 1000000
/-! DL21: dict comprehensions, the keys ints or texts. -/
namespace DL
open PySem L2 Evl
theorem St.reprot {K : PySem.W.Frag} {B : Base} {F : Hp} {ρ : Env} {σ : L2.St} {H : Hp} {p : Addr} {o o' : HO} {c : Ct} (S : St K (B.prot p o) F ρ σ H) (gp : B.G p = none) (f0 : B.F0 p = none) (h0 : B.H0 p = none) (nt : ∀ vs, o ≠ .tup vs) (hc : CtR K F p o' c) : H p = some o ∧ St K (B.prot p o') F ρ σ (upd H p o') := by
  obtain ⟨hp, S1, n⟩ := takeUp S gp f0 h0 nt hc
  obtain ⟨a, e, ow, _, no⟩ := n.ex
  cases e
  exact ⟨hp, S1.prot upd_same ow.nf no⟩
theorem dPut_length {κ : Type} [DecidableEq κ] (kvs : List (κ × D)) (k : κ) (v : D) : (dPut kvs k v).length ≤ kvs.length + 1 := by
  unfold dPut
  split
  · rw [List.length_map]; omega
  · rw [List.length_append, List.length_cons, List.length_nil]; omega
def dcL (dg : DG) (dt : DT) (dk dv : DE) (vs : List Nat) : List D → List (Key × D) → Env → (List (Key × D) → Env → Prop) → Prop
  | [], acc, ρ, K => K acc ρ
  | d :: ds, acc, ρ, K => dg d ρ fun ρ1 => dt ρ1 X0 fun b ρ2 => if b = true then dk ρ2 X0 fun k ρ3 => dv ρ3 X0 fun v ρ4 => ofS k.key fun kk => dcL dg dt dk dv vs ds (dPut acc kk v) (wipeE vs ρ4) K else dcL dg dt dk dv vs ds acc (wipeE vs ρ2) K
def nDC (di : DI) (dg : DG) (dt : DT) (dk dv : DE) (vs : List Nat) : NE := fun ρ X K => di ρ X fun ds ρ1 => ds.length ≤ 1000000 ∧ dcL dg dt dk dv vs ds [] (wipeE vs ρ1) fun acc ρ2 => K (.dct acc) (restE vs ρ1 (wipeE vs ρ2))
section
variable {X : Cx} {W : WX} {a b c e elt tg it kx vx : Expr} {dk dv : DE} {dt : DT} {di : DI} {es ifs : List Expr} {pos p : Pos}
theorem mono_dcL {dg : DG} {vs : List Nat} (mg : MonoG dg) (mt : MonoT dt) (mk : MonoE dk) (mv : MonoE dv) : ∀ {ds : List D} {acc : List (Key × D)} {ρ : Env} {K K' : List (Key × D) → Env → Prop}, (∀ xs ρ, K xs ρ → K' xs ρ) → dcL dg dt dk dv vs ds acc ρ K → dcL dg dt dk dv vs ds acc ρ K'
  | [], _, _, _, _, hk, h => hk _ _ h
  | d :: ds, acc, ρ, K, K', hk, h => mg.go (fun ρ h => mt.go (fun _ _ h => h) (fun b ρ h => by
    cases b with
    | true => exact mk.go (fun _ _ h => h) (fun y ρ h => mv.go (fun _ _ h => h) (fun v ρ h => ofS.mono (fun kk h => mono_dcL mg mt mk mv hk h) h) h) h
    | false => exact mono_dcL mg mt mk mv hk h) h) h
theorem mono_nDC {dg : DG} {vs : List Nat} (mi : MonoI di) (mg : MonoG dg) (mt : MonoT dt) (mk : MonoE dk) (mv : MonoE dv) : MonoN (nDC di dg dt dk dv vs) := ⟨fun hx hk h => mi.go hx (fun ds ρ h => ⟨h.1, mono_dcL mg mt mk mv (fun xs ρ h => hk _ _ h) h.2⟩) h⟩
theorem dc_turn {dg : DG} {g : TG} {is vs : List Nat} {Xb : Cx} (hK : Xb.K = X.K) (hg : PDG Xb tg g dg is) (mt : MonoT dt) (mk : MonoE dk) (mv : MonoE dv) (his : ∀ j ∈ is, j ∈ vs) {B B' : Base} {F F1 : Hp} {ρ1 : Env} {σ : L2.St} {H1 : Hp} {J : It} {ds : List D} {Q : VK}
    (l : B.Le B') (e1 : Ex F F1) (S1 : St X.K B' F1 ρ1 σ H1) (Y : Yld X.K B'.G F1 J ds) (h : ds.length ≤ 1000000 ∧ dcL dg dt dk dv vs ds [] (wipeE vs ρ1) fun acc ρ2 => ∀ v F' H', Ex F F' → St X.K B F' (restE vs ρ1 (wipeE vs ρ2)) σ H' → NwR X.K B F' (restE vs ρ1 (wipeE vs ρ2)) σ H' v (.dct acc) → Q v H') :
    ∀ D, H1 D = none → ∃ W' : Nat → Nat → Hp → Prop, (∃ m, W' 0 m (upd H1 D (.dK []))) ∧ ∀ i m H, W' i m H →
      (J.stop i H ∧ Q (.ref D) H) ∨ (J.go i H ∧ ∃ Nx : Hp → Prop, (∀ H', Nx H' → ∃ m', m' < m ∧ W' (i + 1) m' H') ∧ ∀ x H', J.yld i H x H' → g x (wipe σ vs) H' fun σ2 H2 => wipe σ2 vs = wipe σ vs ∧ liftT X.K W0 dt σ2 H2 fun b H3 =>
        if b = true then liftE X.K W0 dk σ2 H3 fun y H4 => liftE X.K W0 dv σ2 H4 fun z H5 => ∃ kvs k, y = kV k ∧ H5 D = some (.dK kvs) ∧ kvs.length < sizeLine ∧ Nx (upd H5 D (.dK (putK kvs k z))) else Nx H3) := by
  intro Dl hD
  obtain ⟨hz, h⟩ := h
  have S1w := S1.wiped vs
  obtain ⟨S2, gD, f0D, h0D⟩ := aside S1w hD (o := .dK []) (fun _ z => nomatch z)
  have wip : ∀ {ρ : Env}, ∀ j ∈ vs, isOw ((wipeE vs ρ).getD j .un) = false := fun {ρ} j hj => by rw [wipeE_at, if_pos hj]; rfl
  refine ⟨fun i m H' => ∃ (F' : Hp) (ρ' : Env) (acc : List (Key × D)) (accV : List (Key × V)), Ex F1 F' ∧ St X.K (B'.prot Dl (.dK accV)) F' ρ' (wipe σ vs) H' ∧ KReps X.K F' accV acc ∧ acc.length ≤ i ∧ (∀ j ∈ vs, isOw (ρ'.getD j .un) = false) ∧ m = ds.length - i ∧ i ≤ ds.length ∧
    dcL dg dt dk dv vs (ds.drop i) acc ρ' fun acc ρ2 => ∀ v F' H', Ex F F' → St X.K B F' (restE vs ρ1 (wipeE vs ρ2)) σ H' → NwR X.K B F' (restE vs ρ1 (wipeE vs ρ2)) σ H' v (.dct acc) → Q v H', ?_, ?_⟩
  · exact ⟨ds.length, F1, wipeE vs ρ1, [], [], Ex.refl _, S2, .nil, Nat.le_refl _, wip, rfl, Nat.zero_le _, h⟩
  · rintro i m H' ⟨F', ρ', acc, accV, e', S', rA, hla, hwp, rfl, hi', h'⟩
    obtain ⟨y1, y2, y3⟩ := Y (B'.prot Dl (.dK accV)) F' ρ' (wipe σ vs) H' (Ex.new gD) e' S'
    by_cases hlt : i < ds.length
    · have hd : ds.drop i = ds[i] :: ds.drop (i + 1) := List.drop_eq_getElem_cons hlt
      rw [hd] at h'
      refine .inr ⟨y1 i hlt, fun H2 => ∃ (F' : Hp) (ρ' : Env) (acc : List (Key × D)) (accV : List (Key × V)), Ex F1 F' ∧ St X.K (B'.prot Dl (.dK accV)) F' ρ' (wipe σ vs) H2 ∧ KReps X.K F' accV acc ∧ acc.length ≤ i + 1 ∧ (∀ j ∈ vs, isOw (ρ'.getD j .un) = false) ∧
        dcL dg dt dk dv vs (ds.drop (i + 1)) acc ρ' fun acc ρ2 => ∀ v F' H', Ex F F' → St X.K B F' (restE vs ρ1 (wipeE vs ρ2)) σ H' → NwR X.K B F' (restE vs ρ1 (wipeE vs ρ2)) σ H' v (.dct acc) → Q v H',
        fun H2 ⟨F2, ρ2, acc2, accV2, e2, S2, r2, l2, w2, h2⟩ => ⟨ds.length - (i + 1), by omega, F2, ρ2, acc2, accV2, e2, S2, r2, l2, w2, rfl, hlt, h2⟩, fun x H3 y => ?_⟩
      obtain ⟨F3, e3, S3, r3⟩ := y3 i ds[i] x H3 (by simp [hlt]) y
      have S3 : St Xb.K (B'.prot Dl (.dK accV)) F3 ρ' (wipe σ vs) H3 := by rw [hK]; exact S3
      have r3 : Rep Xb.K F3 x ds[i] := by rw [hK]; exact r3
      refine hg.run S3 r3 h' fun ρ4 h4 F4 σ4 H4 e4 l4 o4 S4 => ?_
      have S4 : St X.K (B'.prot Dl (.dK accV)) F4 ρ4 σ4 H4 := by rw [← hK]; exact S4
      have w4 : wipe σ4 vs = wipe σ vs := by
        have := wipe_eq (σ := wipe σ vs) (σ2 := σ4) (vs := vs) l4 fun j hj => o4 j fun z => hj (his j z)
        rw [this, wipe_wipe]
      refine ⟨w4, liftT.of (W := W0) (F0 := F4) mt (Ex.refl _) S4 (mt.go (fun _ _ h => h.elim) (fun _ _ h => h) h4) fun t ρ5 h5 F5 H5 e5 S5 => ?_⟩
      cases t with
      | false =>
        have S6 := S5.wiped vs
        rw [w4] at S6
        exact ⟨F5, _, acc, accV, ((e'.trans e3).trans e4).trans e5, S6, rA.mono ((e3.trans e4).trans e5), by omega, wip, h5⟩
      | true =>
        refine liftE.of (W := W0) (F0 := F5) mk (Ex.refl _) S5 (mk.go (fun _ _ h => h.elim) (fun _ _ h => h) h5) fun kk ρ6 h6 u F6 H6 e6 S6 r6 => ?_
        refine liftE.of (W := W0) (F0 := F6) mv (Ex.refl _) S6 (mv.go (fun _ _ h => h.elim) (fun _ _ h => h) h6) fun z ρ7 h7 w F7 H7 e7 S7 r7 => ?_
        obtain ⟨k, ek, h7⟩ := ofS.eq h7
        have eB := (((e3.trans e4).trans e5).trans e6).trans e7
        have rA' := rA.mono eB
        have S8 := S7.wiped vs
        rw [w4] at S8
        have hc : ∀ p, CtR X.K F7 p (.dK (putK accV k w)) (.dct (dPut acc k z)) := fun _ => ⟨_, rfl, rA'.put r7⟩
        obtain ⟨hp, S9⟩ := S8.reprot gD f0D h0D (fun _ z => nomatch z) (hc _)
        refine ⟨accV, k, key_rep r6 ek, hp, ?_, F7, _, dPut acc k z, putK accV k w, e'.trans eB, S9, rA'.put r7, ?_, wip, h7⟩
        · rw [rA.length]
          have : acc.length ≤ 1000000 := by omega
          have h2 : (1000000 : Nat) < sizeLine := by rw [sizeLine_eq]; decide
          omega
        · have := dPut_length acc k z
          omega
    · have e : i = ds.length := by omega
      subst e
      rw [List.drop_length] at h'
      refine .inl ⟨y2, ?_⟩
      obtain ⟨S7, hD7, fD7, no7⟩ := S'.unprot gD f0D fun _ z => (nomatch z)
      have S7w := S7.wiped vs
      rw [wipe_wipe] at S7w
      have S8 := S1.rest vs e' S7w fun j hj => by rw [wipeE_at, if_pos hj]; rfl
      refine h' _ F' H' (e1.trans e') (S8.weaken l) (NwR.weaken l ⟨Dl, rfl, ⟨fD7, gD, .dK accV, hD7, accV, rfl, rA⟩, h0D, fun j hj z => ?_⟩)
      rw [restE_at (by rw [wipeE_length, ← S7.len, wipe_length, S1.len])] at hj
      by_cases q : j ∈ vs
      · rw [if_pos q] at hj
        cases hs2 : gt ρ1 j <;> rw [hs2] at hj <;> cases hj
      · rw [if_neg q, wipeE_at, if_neg q] at hj
        exact no7 j hj (by rw [wipe_at q]; exact z)
theorem pn_dc {dg : DG} {g : TG} {is vs : List Nat} {scope : Scope} {own : List (Str × Nat)} (hc : X.calm = true) (hN : X.N.Nodup) (hi : PDI X W tg it di) (ok : BlkOk X.N X.env.scope scope own) (hv : own.map (·.2) = vs)
    (hg : ∀ (s : Shared) (H : Hp) (C : Addr) (cl : List (Str × Addr)) (fp : List Addr), PDG (X.blk s H scope (compEnvC scope cl C X.env) fp) tg g dg is) (his : ∀ j ∈ is, j ∈ vs)
    (ht : ∀ (s : Shared) (H : Hp) (C : Addr) (cl : List (Str × Addr)) (fp : List Addr), PDTs (X.blk s H scope (compEnvC scope cl C X.env) fp) W0 ifs dt)
    (hk : ∀ (s : Shared) (H : Hp) (C : Addr) (cl : List (Str × Addr)) (fp : List Addr), PD (X.blk s H scope (compEnvC scope cl C X.env) fp) W0 kx dk)
    (he : ∀ (s : Shared) (H : Hp) (C : Addr) (cl : List (Str × Addr)) (fp : List Addr), PD (X.blk s H scope (compEnvC scope cl C X.env) fp) W0 vx dv) (hs : ∀ x, foldedSetIterable it X.env x = pure x := by intro _; rfl) :
    PN X W (.DictComp kx vx [⟨tg, it, ifs, 0⟩] scope pos) (nDC di dg dt dk dv vs) := by
  subst hv
  have mg := (hg X.s_0 X.H_0 0 [] []).mono
  have mt := (ht X.s_0 X.H_0 0 [] []).mono
  have mk := (hk X.s_0 X.H_0 0 [] []).mono
  have me := (he X.s_0 X.H_0 0 [] []).mono
  exact ⟨mono_nDC hi.mono mg mt mk me, PE.imp (pe_dc (pos := pos) hc hN hi.run ok (fun s H C cl fp => (hg s H C cl fp).pg) (fun s H C cl fp => (ht s H C cl fp).run) (fun s H C cl fp => (hk s H C cl fp).run) (fun s H C cl fp => (he s H C cl fp).run) hs)
    fun σ H Q ⟨B, F, ρ, S, h⟩ => ⟨B, F, ρ, S, hi.mono.go (fun _ _ h => h) (fun ds ρ1 h J B' F1 H1 l e1 S1 Y => dc_turn (Xb := X.blk X.s_0 X.H_0 scope (compEnvC scope [] 0 X.env) []) rfl (hg _ _ _ _ _) mt mk me his l e1 S1 Y h) h⟩⟩
end
end DL
set_option Elab.async false
set_option linter.all false
set_option maxRecDepth 100000
set_option maxHeartbeats 1000000
/-! DL22: instances: made, their fields read and set. -/
namespace DL
open PySem L2 Evl
theorem getD_snoc_lt {ρ : Env} {s : Sl} {i : Nat} (h : i < ρ.length) : (ρ ++ [s]).getD i .un = ρ.getD i .un := by
  simp [List.getD, List.getElem?_append_left h]
theorem getD_snoc_eq {ρ : Env} {s : Sl} : (ρ ++ [s]).getD ρ.length .un = s := by
  simp [List.getD]
theorem getD_snoc_gt {ρ : Env} {s : Sl} {i : Nat} (h : ρ.length < i) : (ρ ++ [s]).getD i .un = .un := by
  rw [List.getD, List.getElem?_eq_none (by simp; omega)]; rfl
section
variable {K : PySem.W.Frag} {B : Base} {F F' : Hp} {ρ : Env} {σ : L2.St} {H H' : Hp}
theorem St.snoc {v : V} {c : Ct} (S : St K B F ρ σ H) (n : NwR K B F ρ σ H v c) : St K B F (ρ ++ [.ow false c]) (σ ++ [some v]) H := by
  obtain ⟨a, rfl, ow, h0, no⟩ := n.ex
  have σlt : ∀ {i : Nat}, i < ρ.length → (σ ++ [some (.ref a)])[i]? = σ[i]? := fun {i} h => List.getElem?_append_left (by rw [S.len]; exact h)
  have σeq : (σ ++ [some (V.ref a)])[ρ.length]? = some (some (.ref a)) := by rw [← S.len]; simp
  refine ⟨S.ex, S.out, S.new, S.ge, S.thr, by simp [S.len], fun i => ?_, fun i j b h1 h2 e1 e2 => ?_⟩
  · by_cases q : i < ρ.length
    · rw [getD_snoc_lt q, σlt q]; exact S.sl i
    · by_cases q2 : i = ρ.length
      · subst q2
        rw [getD_snoc_eq]
        exact ⟨a, σeq, ow, fun _ => h0, fun z => by cases z⟩
      · rw [getD_snoc_gt (by omega)]; trivial
  · have key : ∀ k, isOw ((ρ ++ [Sl.ow false c]).getD k .un) = true → k = ρ.length ∨ (k < ρ.length ∧ isOw (ρ.getD k .un) = true) := fun k hk => by
      by_cases q : k < ρ.length
      · rw [getD_snoc_lt q] at hk; exact .inr ⟨q, hk⟩
      · by_cases q2 : k = ρ.length
        · exact .inl q2
        · rw [getD_snoc_gt (by omega)] at hk; cases hk
    rcases key i h1 with rfl | ⟨q1, o1⟩
    · rcases key j h2 with rfl | ⟨q2, o2⟩
      · rfl
      · rw [σeq] at e1
        have : a = b := by simpa using e1
        subst this
        rw [σlt q2] at e2
        exact absurd e2 (no j o2)
    · rcases key j h2 with rfl | ⟨q2, o2⟩
      · rw [σeq] at e2
        have : a = b := by simpa using e2
        subst this
        rw [σlt q1] at e1
        exact absurd e1 (no i o1)
      · rw [σlt q1] at e1
        rw [σlt q2] at e2
        exact S.own i j b o1 o2 e1 e2
theorem St.unsnoc {v : V} {s : Sl} (S : St K B F (ρ ++ [s]) (σ ++ [some v]) H) (hl : σ.length = ρ.length) : St K B F ρ σ H ∧ ∀ c, s = .ow false c → NwR K B F ρ σ H v c := by
  have σlt : ∀ {i : Nat}, i < ρ.length → (σ ++ [some v])[i]? = σ[i]? := fun {i} h => List.getElem?_append_left (by rw [hl]; exact h)
  have σeq : (σ ++ [some v])[ρ.length]? = some (some v) := by rw [← hl]; simp
  have lt : ∀ {k : Nat}, isOw (ρ.getD k .un) = true → k < ρ.length := fun {k} h => lt_of_getD h
  have up : ∀ {k : Nat}, isOw (ρ.getD k .un) = true → isOw ((ρ ++ [s]).getD k .un) = true := fun {k} h => by rw [getD_snoc_lt (lt h)]; exact h
  refine ⟨⟨S.ex, S.out, S.new, S.ge, S.thr, hl, fun i => ?_, fun i j b h1 h2 e1 e2 => ?_⟩, fun c hs => ?_⟩
  · by_cases q : i < ρ.length
    · have := S.sl i
      rw [getD_snoc_lt q] at this
      have s2 := this
      cases hi : ρ.getD i .un with
      | un => trivial
      | fz d => rw [hi, σlt q] at s2; exact s2
      | ow b c =>
        rw [hi, σlt q] at s2
        exact s2
    · rw [show ρ.getD i .un = .un by rw [List.getD, List.getElem?_eq_none (by omega)]; rfl]; trivial
  · exact S.own i j b (up h1) (up h2) (by rw [σlt (lt h1)]; exact e1) (by rw [σlt (lt h2)]; exact e2)
  · subst hs
    have s2 := S.sl ρ.length
    rw [getD_snoc_eq, σeq] at s2
    obtain ⟨a, e1, ow, h0, _⟩ := s2
    have e1 : v = .ref a := by simpa using e1
    subst e1
    refine ⟨a, rfl, ow, h0 rfl, fun i hi z => ?_⟩
    have := S.own i ρ.length a (up hi) (by rw [getD_snoc_eq]; rfl) (by rw [σlt (lt hi)]; exact z) σeq
    have := lt hi
    omega
end
/-- C(..): the instance, as its __init__ leaves it -/
def nMake (C : Addr) (n : Nat) (dc : DC) (das : DAs) : NE := fun ρ X K => das ρ X fun as ρ1 => allD as fun ds => ds.length + 1 = n ∧ dc (.ow true (.ins C [] []) :: ds.map .fz) (fun _ _ => False) fun r outs => r = .d .none ∧ match outs with
  | .ow _ c :: _ => K c ρ1
  | _ => False
theorem argsOf_d {ρ : Env} : ∀ (ds : List D), argsOf ρ (ds.map .d) = ds.map .fz
  | [] => rfl
  | d :: ds => by rw [List.map_cons, argsOf, argsOf_d ds]; rfl
theorem putOuts_d {ρ : Env} : ∀ (ds : List D) (os : List Sl), putOuts (ds.map .d) os ρ = ρ
  | [], [] => rfl
  | [], _ :: _ => rfl
  | d :: ds, [] => rfl
  | d :: ds, o :: os => by rw [List.map_cons, putOuts, putOuts_d ds os]
theorem borOk_d {ρ : Env} : ∀ (ds : List D), borOk ρ (ds.map .d) = true
  | [] => rfl
  | d :: ds => by rw [List.map_cons, borOk, borOk_d ds]
theorem avR_d {K : PySem.W.Frag} {F : Hp} {σ : L2.St} : ∀ {vs : List V} {ds : List D}, Reps K F vs ds → AvR K F σ vs (ds.map .d)
  | _, _, .nil => trivial
  | _, _, .cons r t => ⟨r, avR_d t⟩
section
variable {X : Cx} {W : WX} {a b c e : Expr} {da db dv : DE} {das : DAs} {es : List Expr} {pos p pos' : Pos} {dc : DC} {C : Addr}
theorem pass0 : Passes (L2.CX X.prog X.w) X (fun _ _ _ => False) := fun pins σ H s e s' I c => passAt (W := W0) takes0 σ pins H s e s' I c
theorem mono_nMake {n : Nat} (m : MonoC dc) (ma : MonoA das) : MonoN (nMake C n dc das) := ⟨fun hx hk h => ma.go hx (fun as ρ h => allD.mono (fun ds h => ⟨h.1, m.go (fun _ _ h => h) (fun r outs h => ⟨h.1, by
  obtain ⟨_, h⟩ := h
  revert h
  cases outs with
  | nil => exact fun h => h
  | cons o os =>
    cases o with
    | un => exact fun h => h
    | fz d => exact fun h => h
    | ow b c => exact fun h => hk _ _ h⟩) h.2⟩) h) h⟩
theorem pn_make {k : Nat} {f : Addr} {fd : FuncData} {ps : List Str} {x : Str} {n : Nat} (M : Mk X.K C f) (m : MonoC dc) (F : FnOk X.prog X.w X.K X.mg X.base (L2.CX X.prog X.w) k f fd ps (spD X.K n dc)) (hr : Room (k + 1) X.A) (hg : Gl X x) (hm : X.mg x = some (.ref C)) (hb : Binds X.K fd ps [])
    (ha : PDA X W (e :: es) das) (hdb : (x == ("__debug__" : Str)) = false := by decide) (he : starEach (e :: es) X.env = (false, eval e X.env) :: starEach es X.env := by rfl) (hpl : (backTo pos (starEach es X.env)).any (·.1) = false := by rfl) :
    PN X W (.Call (.Name x p) (e :: es) [] pos) (nMake C n dc das) := by
  refine ⟨mono_nMake m ha.mono, PE.imp (pe_make M F hr hg hm hb .nil pass0 ha.run hdb he hpl) fun σ H Q ⟨B, Fz, ρ, S, h⟩ => ?_⟩
  refine liftA.of ha.mono (Ex.refl _) S h fun as ρ1 h vs F1 H1 e1 S1 r1 => ?_
  intro y dx hy hdx hne
  obtain ⟨ds, r, hn, h⟩ := allD.reps r1 h
  rw [List.append_nil]
  -- the new instance as one more slot
  obtain ⟨S2, _, _, _⟩ := S1.keepNew (o := .own y) hdx
  have hy2 : upd H1 dx (.own y) y = none := by rw [upd_ne (fun z => hne z.symm)]; exact hy
  obtain ⟨S3, nw⟩ := S2.newOw (o := .ins C dx []) (c := .ins C [] []) hy2 ⟨dx, [], rfl, rfl, .nil⟩
  have S4 := S3.snoc nw
  have av : AvR X.K F1 (σ ++ [some (V.ref y)]) (V.ref y :: vs) (.bor ρ1.length :: ds.map .d) := ⟨by rw [← S1.len]; simp, avR_d r⟩
  have hlen : ρ1.length < (ρ1 ++ [Sl.ow false (.ins C [] [])]).length := by simp
  have g1 : gt (ρ1 ++ [Sl.ow false (.ins C [] [])]) ρ1.length = .ow false (.ins C [] []) := getD_snoc_eq
  have hbo : borOk (ρ1 ++ [Sl.ow false (.ins C [] [])]) (.bor ρ1.length :: ds.map .d) = true := by
    have hb2 : (ds.map AV.d).any (isBor ρ1.length) = false := by
      rw [List.any_map, List.any_eq_false]
      intro d _
      simp [isBor]
    simp only [borOk, g1, isOw, hb2, borOk_d]
    rfl
  have hargs : argsOf (ρ1 ++ [Sl.ow false (.ins C [] [])]) (.bor ρ1.length :: ds.map .d) = .ow true (.ins C [] []) :: ds.map .fz := by
    rw [argsOf, argsOf_d, g1]; rfl
  have hput : ∀ o os, putOuts (.bor ρ1.length :: ds.map .d) (o :: os) (ρ1 ++ [Sl.ow false (.ins C [] [])]) = ρ1 ++ [lend (.ow false (.ins C [] [])) o] := fun o os => by
    rw [putOuts, putOuts_d, g1]
    simp
  refine call_data (n := n) (XX := fun _ _ => False) (KK := fun r ρ' => r = .d .none ∧ ∃ c, ρ' = ρ1 ++ [.ow false c] ∧ ∀ v F' H', Ex Fz F' → St X.K B F' ρ1 σ H' → NwR X.K B F' ρ1 σ H' v c → Q v H') (by simp [hn]) S4 av hbo m (by
    rw [hargs]
    refine m.go (fun _ _ h => h) (fun r outs h => ⟨h.1, ?_⟩) h
    obtain ⟨_, h⟩ := h
    cases outs with
    | nil => exact h.elim
    | cons o os =>
      cases o with
      | un => exact h.elim
      | fz d => exact h.elim
      | ow b c => exact ⟨c, by rw [hput]; rfl, h⟩) (fun x ρ' h => h.elim) fun r ρ' h v F' H' e' S' r' => ?_
  obtain ⟨rfl, c, rfl, h⟩ := h
  obtain ⟨S5, n5⟩ := S'.unsnoc S1.len
  have hv : v = .non := by
    cases r' with
    | d h => cases h; rfl
  exact ⟨hv, h _ F' H' (e1.trans e') S5 (n5 c rfl)⟩
/-! ### fields of one's own instance -/
def fldGet (f : Str) : List Str → List D → Option D
  | g :: lay, x :: xs => if g = f then some x else fldGet f lay xs
  | _, _ => none
def fldPut (f : Str) (y : D) : List Str → List D → List Str × List D
  | g :: lay, x :: xs => if g = f then (g :: lay, y :: xs) else let r := fldPut f y lay xs; (g :: r.1, x :: r.2)
  | _, _ => ([f], [y])
theorem fldGet_rep {K : PySem.W.Frag} {F : Hp} {f : Str} {d : D} : ∀ {fs : List (Str × V)} {xs : List D}, Reps K F (fs.map (·.2)) xs → fldGet f (fs.map (·.1)) xs = some d → ∃ v, fs.lookup f = some v ∧ Rep K F v d
  | [], _, _, h => by simp [fldGet] at h
  | (g, w) :: fs, x :: xs, .cons r t, h => by
    rw [List.map_cons, fldGet] at h
    by_cases q : g = f
    · rw [if_pos q] at h
      have h : x = d := by simpa using h
      subst h; subst q
      exact ⟨w, by simp, r⟩
    · rw [if_neg q] at h
      obtain ⟨v, e, r2⟩ := fldGet_rep (fs := fs) t h
      refine ⟨v, ?_, r2⟩
      have : (f == g) = false := beq_eq_false_iff_ne.mpr (fun z => q z.symm)
      rw [List.lookup_cons, this]; exact e
theorem fldPut_rep {K : PySem.W.Frag} {F : Hp} {f : Str} {v : V} {d : D} (r : Rep K F v d) : ∀ {fs : List (Str × V)} {xs : List D}, Reps K F (fs.map (·.2)) xs → (putF f v fs).map (·.1) = (fldPut f d (fs.map (·.1)) xs).1 ∧ Reps K F ((putF f v fs).map (·.2)) (fldPut f d (fs.map (·.1)) xs).2 ∧ (putF f v fs).length ≤ fs.length + 1
  | [], [], .nil => ⟨rfl, .cons r .nil, Nat.le_refl _⟩
  | (g, w) :: fs, x :: xs, .cons r1 t => by
    obtain ⟨h1, h2, h3⟩ := fldPut_rep r (fs := fs) t
    rw [List.map_cons, fldPut, putF]
    by_cases q : g = f
    · rw [if_pos q, if_pos q]
      exact ⟨rfl, .cons r t, by simp⟩
    · rw [if_neg q, if_neg q]
      exact ⟨by simp [h1], .cons r1 h2, by simp; omega⟩
def eFldS (C : Addr) (f : Str) (i : Nat) : DE := fun ρ _ K => owC (gt ρ i) fun _ c => match c with
  | .ins C' lay xs => C' = C ∧ ofS (fldGet f lay xs) fun d => K d ρ
  | _ => False
theorem pd_fldS {f x : Str} (i : Nat) (hc : Cls X.K C) (hn : NoAttr X.K C f) (hN : X.N[i]? = some x := by rfl) (hv : Vis X.env.scope x := by first | exact Or.inl rfl | exact Or.inr (Or.inl rfl) | exact Or.inr (Or.inr rfl)) (hd : (x == ("__debug__" : Str)) = false := by decide)
    (hcd : (x == ("__classdict__" : Str)) = false := by decide) (hb : attributeBase (.Name x p) f X.env (eval (.Name x p) X.env) = eval (.Name x p) X.env := by rfl) : PD X W (.Attribute (.Name x p) f pos) (eFldS C f i) := by
  refine ⟨⟨fun hx hk h => owC.mono (fun b c h => ?_) h⟩, PE.imp (pe_fld (pe_var (i := i) hN hv hd hcd) hb) fun σ H Q ⟨B, F, ρ, S, h⟩ => ?_⟩
  · cases c <;> try exact h.elim
    exact ⟨h.1, ofS.mono (fun d h => hk _ _ h) h.2⟩
  · obtain ⟨b, c, es, h⟩ := h.eq
    obtain ⟨a, ea, ⟨nf, ng, o, ho, hcr⟩, _⟩ := S.ow es
    cases c <;> try exact h.elim
    obtain ⟨rfl, h2⟩ := h
    obtain ⟨d, ed, h3⟩ := ofS.eq h2
    obtain ⟨dx, fs, rfl, hl, r⟩ := hcr
    subst hl
    obtain ⟨v, hv, rv⟩ := fldGet_rep r ed
    exact ⟨_, ea, a, _, dx, fs, v, rfl, ho, hc, hn, hv, h3 v F H (Ex.refl _) S rv⟩
def dFld (C : Addr) (f : Str) (i : Nat) (dv : DE) : DS := fun ρ P => dv ρ P.ex fun y ρ1 => owC (gt ρ1 i) fun b c => match c with
  | .ins C' lay xs => C' = C ∧ xs.length < 900 ∧ P.nx (ρ1.set i (.ow b (.ins C (fldPut f y lay xs).1 (fldPut f y lay xs).2)))
  | _ => False
theorem pds_fld {f x : Str} {value : Expr} (i : Nat) (hc : Cls X.K C) (hn : NoAttr X.K C f) (hv : PD X W value dv) (hN : X.N[i]? = some x := by rfl) (hvis : Vis X.env.scope x := by first | exact Or.inl rfl | exact Or.inr (Or.inl rfl) | exact Or.inr (Or.inr rfl)) (hd : (x == ("__debug__" : Str)) = false := by decide)
    (hcd : (x == ("__classdict__" : Str)) = false := by decide) (hs : swapsWith value (some (.Attribute (.Name x p) f pos')) pos.line X.env = pure false := by rfl) : PDS X W (.Assign [.Attribute (.Name x p) f pos'] value pos) (dFld C f i dv) := by
  refine ⟨⟨fun le h => hv.mono.go le.ex (fun y ρ h => owC.mono (fun b c h => ?_) h) h⟩, PS.imp (ps_fld (pe_var (i := i) hN hvis hd hcd) hv.run hs) fun D σ H ⟨B, F, ρ, S, h⟩ => liftE.ofS hv.mono S h fun y ρ1 h v F1 H1 e1 S1 r1 => ?_⟩
  · cases c <;> try exact h.elim
    exact ⟨h.1, h.2.1, le.nx _ h.2.2⟩
  · obtain ⟨b, c, es, h⟩ := h.eq
    obtain ⟨a, ea, ⟨nf, ng, o, ho, hcr⟩, _⟩ := S1.ow es
    cases c <;> try exact h.elim
    obtain ⟨rfl, hz, h⟩ := h
    obtain ⟨dx, fs, rfl, hl, r⟩ := hcr
    subst hl
    obtain ⟨q1, q2, q3⟩ := fldPut_rep (f := f) r1 r
    have hlen : fs.length < 900 := by have := r.length; rw [List.length_map] at this; omega
    exact ⟨_, ea, a, _, dx, fs, rfl, ho, hc, hn, by omega, h F1 σ _ e1 (S1.write es ea ⟨dx, _, rfl, q1, q2⟩)⟩
end
end DL
set_option Elab.async false
set_option linter.all false
set_option maxRecDepth 100000
set_option maxHeartbeats 1000000
/-! DL23: defs that show values (repr): their promise holds where nothing is being shown. -/
namespace DL
open PySem L2 Evl PySem.Spec PyProof.Rows
structure FnOkG (P : Program) (w : World) (K : PySem.W.Frag) (mg : Str → Option Value) (base : Heap) (CX : CXT) (k : Nat) (f : Addr) (fd : FuncData) (ps : List Str) (sp : Sp) : Prop where
  len : ∀ vs H Q E, sp vs H Q E → vs.length = ps.length
  run : ∀ (A : Around) (outer : List PySem.Env) (s : Shared) (H : Hp) (args : Args) (us : List Value) (vs : List V) (Q : VK) (E : XK), A.guards = some [] → Room k A → Env0 P w K mg base A outer s H → BindsTo s fd args (ps.zip us) → Vals vs us → sp vs H Q E →
    codeAny (model P w) A (.call (.ref f) args) (CR CX outer P w H s Q E) s
theorem FnOkG.of {P : Program} {w : World} {K : PySem.W.Frag} {mg : Str → Option Value} {base : Heap} {CX : CXT} {k : Nat} {f : Addr} {fd : FuncData} {ps : List Str} {sp : Sp} (F : FnOk P w K mg base CX k f fd ps sp) : FnOkG P w K mg base CX k f fd ps sp :=
  ⟨F.len, fun A outer s H args us vs Q E _ => F.run A outer s H args us vs Q E⟩
theorem FnOkG.mono {P : Program} {w : World} {K : PySem.W.Frag} {mg : Str → Option Value} {base : Heap} {CX : CXT} {j k : Nat} {f : Addr} {fd : FuncData} {ps : List Str} {sp : Sp} (F : FnOkG P w K mg base CX j f fd ps sp) (h : j ≤ k) : FnOkG P w K mg base CX k f fd ps sp :=
  ⟨F.len, fun A outer s H args us vs Q E hg hr => F.run A outer s H args us vs Q E hg (hr.mono h)⟩
/-- a def's promise from its body's -/
theorem fnG_of {CX : CXT} {P : Program} {w : World} {K : PySem.W.Frag} {mg : Str → Option Value} {base : Heap} {k : Nat} {f : Addr} {name qual : Str} {params : Arguments} {body : List Stmt} {scope : Scope} {dV kV doc pm cdv ct oc : Value} {an od : Option Addr}
    {osl : Array (Option Value)} {N ps : List Str} {sp : Sp} (lk : K.lookup f = some ⟨oc, od, .func (PySem.W.fnOf name qual params body scope dV kV doc pm an cdv ct), osl⟩) (hcd : PySem.W.codeIn K cdv qual = true) (S : FnScope N ps scope)
    (len : ∀ vs H Q E, sp vs H Q E → vs.length = ps.length)
    (hbody : ∀ (A : Around) (outer : List PySem.Env) (s : Shared) (H : Hp) (vs : List V) (Q : VK) (E : XK), (A.deeper (envOfC qual scope s.heap.objs.size f cdv)).guards = some [] → Room k (A.deeper (envOfC qual scope s.heap.objs.size f cdv)) → sp vs H Q E →
      ∃ t, PSs (cxOf CX P w K mg base N qual scope f cdv A outer s H E) body t ∧ t { nx := fun _ H' => Q .non H', rt := Q } (start N vs) H) :
    FnOkG P w K mg base CX (k + 1) f (PySem.W.fnOf name qual params body scope dV kV doc pm an cdv ct) ps sp where
  len := len
  run := fun A outer s H args us vs Q E hgd hr e0 hb r hsp => by
    have KX : K.In s.heap := e0.mod.kin.keeps fun b o e => (e0.bs b o e).1
    have par : ∀ y ∈ ps.zip us, scope.names.lookup y.1 = some .local ∨ (scope.names.lookup y.1 = some .cell ∧ ((cellsFrom (s.heap.objs.size + 1) scope.names []).lookup y.1).isSome = true) := fun ⟨n, v⟩ hy =>
      (S.par n (List.of_mem_zip hy).1).imp id fun q => ⟨q, PySem.W.cellsFrom_some _ _ _ (.inl q)⟩
    refine codeAny_call_function hr.depth (KX _ _ lk) rfl S.co S.gen rfl (PySem.W.codeRec_of KX hcd) (hb _ _ _ _ ?_)
    refine wpAny_newFunctionEnv_cells S.kind par fun env he s1 x => ?_
    subst he
    refine ⟨(e0.mod.nolimit.keeps fun b o e => (e0.bs b o e).1).keeps x.toInCall.keep, codeAny_func ?_⟩
    obtain ⟨t, ht, hq⟩ := hbody A outer s H vs Q E hgd (hr.deeper _) hsp
    have I : Inv (cxOf CX P w K mg base N qual scope f cdv A outer s H E) [] (start N vs) H s1 := inv_start S hr.hd e0 (len _ _ _ _ hsp) r x
    refine wpAny_mono (ht.run [] s1 (start N vs) H _ I hq) (fun fl s' hs => ?_) fun e s' hs => hs
    cases fl with
    | ret u =>
      obtain ⟨v, σ', H', J, rv, q⟩ := hs
      exact ⟨v, H', J.os, J.bare, J.base, J.hok, rv, q⟩
    | next =>
      obtain ⟨σ', H', J, q⟩ := hs
      exact ⟨V.non, H', J.os, J.bare, J.base, J.hok, rfl, q⟩
    | brk =>
      obtain ⟨_, _, _, q⟩ := hs
      exact q.elim
    | cont =>
      obtain ⟨_, _, _, q⟩ := hs
      exact q.elim
section
variable {X : Cx} {CX : CXT} {k : Nat} {f : Addr} {fd : FuncData} {ps : List Str} {sp : Sp} {E : L2.St → XK} {x : Str} {p pos : Pos} {e : Expr} {es : List Expr} {t : TA} {dvs : List V} {ds : List Value}
theorem run_fnG {pins : List (Addr × Obj)} {σ : L2.St} {H : Hp} {s : Shared} {Q : VK} {us : List Value} {vs : List V} (F : FnOkG X.prog X.w X.K X.mg X.base CX k f fd ps sp) (hgd : X.A.guards = some []) (hr : Room k X.A) (hb : Binds X.K fd ps ds) (hd : Vals dvs ds) (hx : PassesAt CX X σ (E σ))
    (I : Inv X pins σ H s) (r : Vals vs us) (h : sp (vs ++ dvs) H Q (E σ)) : wpAny (model X.prog X.w) X.A (call (.ref f) us) (EP X pins σ Q) X.xe s := by
  have r2 := r.append hd
  refine wpAny_call (codeAny_mono (F.run X.A X.stack s H ⟨us, []⟩ _ _ Q (E σ) hgd hr I.env0 (hb s us I.kIn (by rw [← r2.length]; exact F.len _ _ _ _ h)) r2 h) fun r s' hq => ?_)
  match r, hq with
  | .error e, hq => exact hx pins H s e s' I hq
  | .ok (.ret u), hq => exact I.after hq
theorem pe_callG (F : FnOkG X.prog X.w X.K X.mg X.base CX k f fd ps sp) (hgd : X.A.guards = some []) (hr : Room k X.A) (hg : Gl X x) (hm : X.mg x = some (.ref f)) (hk : PySem.W.keepIn X.K (.ref f) = true) (hb : Binds X.K fd ps ds) (hd : Vals dvs ds) (hx : ∀ σ, PassesAt CX X σ (E σ))
    (ha : PA X (e :: es) t) (hdb : (x == ("__debug__" : Str)) = false := by decide) (he : starEach (e :: es) X.env = (false, eval e X.env) :: starEach es X.env := by rfl) (hpl : (backTo pos (starEach es X.env)).any (·.1) = false := by rfl) :
    PE X (.Call (.Name x p) (e :: es) [] pos) (tCallSD sp dvs E t) :=
  ⟨fun pins s σ H Q I h => wpAny_Call_Name_kw (ld_glob I hg hm (PySem.W.callWith_K (h₀ := X.base) I.ok.mod.kin hk (thn (ha.run pos pins s σ H _ I h) fun us s1 ⟨vs, H1, I1, r, q⟩ => ⟨I1.kIn, run_fnG F hgd hr hb hd (hx σ) I1 r q⟩) he hpl) hdb)⟩
end
end DL
set_option Elab.async false
set_option linter.all false
set_option maxRecDepth 100000
set_option maxHeartbeats 1000000
/-! DL24: the law's call, nothing being shown. -/
namespace DL
open PySem L2 Evl PySem.Spec PyProof.Rows
section
variable {P : Program} {w : World} {K : PySem.W.Frag} {mg mb : Str → Option Value} {CX : CXT} {k : Nat} {fa a : Addr} {fd : FuncData} {x : Str} {sp : Sp} {s₁ : Shared} {vs : List Value} {ns : List Int}
theorem law_goG (KX : K.In s₁.heap) (hns : s₁.heap.Ns mainGlobals mg) (hb : s₁.heap.Ns builtinsNs mb) (hbb : ∀ x : Str, x ≠ "__name__" → mb x = bootBuiltins x) (hlim : s₁.heap.NoLimit) (hg : s₁.gens = #[])
    (ha : s₁.heap.get? a = some { cls := .type "list", data := .seq vs.toArray }) (hr : Room k callerA)
    (F : ∀ base : Heap, K.In base → base.Ns mainGlobals mg → FnOkG P w K mg base CX k fa fd [x] sp) (hbind : ∀ (s : Shared) (u : Value), BindsTo s fd ⟨[u], []⟩ [(x, u)]) (hCX : ∀ H e s', CX [] H s₁ (fun _ _ _ => False) e s' → False)
    (H : Hp) (hO : Only H) (hsp : sp [.ref a] H (fun v _ => v = .bl true) fun _ _ _ => False) (hok : HOk P w H s₁.heap) (hA : ∀ b, H b ≠ none → b = a) (hK : H a ≠ none → K.lookup a = none) :
    codeAny (model P w) callerA (.call (.ref fa) ⟨[.ref a], []⟩) (fun r s' => r = .ok (.ret (.bool true)) ∧ OldK s₁.heap s'.heap ∧ s'.os = s₁.os ∧ AllBare s'.gens) s₁ := by
  have free : ∀ {b : Addr}, b ≠ a → H b = none := fun {b} n => by
    cases q : H b with
    | none => rfl
    | some u => exact absurd (hA b (by rw [q]; simp)) n
  have dic : ∀ {b : Addr} {o : Obj} {es : Array DictEntry} {ep : Nat}, s₁.heap.get? b = some o → o.data = .dict es ep → (hidT s₁.heap H).get? b = some o := fun {b o es ep} e d => hidT_get e (free fun z => by
    subst z
    rw [ha] at e
    cases e
    exact nomatch (show Data.seq vs.toArray _ = Data.dict es ep from d))
  have names : ∀ {b : Addr} {m : Str → Option Value}, s₁.heap.Ns b m → (hidT s₁.heap H).Ns b m := fun ⟨o, es, ep, e, d, r⟩ => ⟨o, es, ep, dic e d, d, r⟩
  have KH : K.In (hidT s₁.heap H) := fun b o e => hidT_get (KX b o e) (by
    by_cases q : b = a
    · subst q
      cases h : H b with
      | none => rfl
      | some u => rw [hK (by rw [h]; simp)] at e; cases e
    · exact free q)
  have e0 : Env0 P w K mg (hidT s₁.heap H) callerA [] s₁ H := ⟨rfl, ⟨KH, names hns, ⟨mb, names hb, hbb⟩, hlim.imp fun _ q => ⟨names q.1, q.2⟩⟩, fun _ _ e => of_hidT e, Nat.le_of_eq (hidT_size _ _), trivial, fun b hb => (List.not_mem_nil hb).elim, hok, .of_eq hg⟩
  refine codeAny_mono ((F _ KH (names hns)).run callerA [] s₁ H _ [.ref a] [.ref a] _ _ rfl hr e0 (hbind s₁ (.ref a)) (.cons rfl .nil) hsp) fun r s' h => ?_
  match r, h with
  | .error e, h => exact (hCX H e s' h).elim
  | .ok (.ret u), ⟨v, H', os, bare, un, hok', r', q⟩ =>
    obtain rfl : v = .bl true := q
    obtain rfl : u = Value.bool true := r'
    refine ⟨rfl, OldK.of_keep fun b o e => ?_, os, bare⟩
    rcases hO b with z | ⟨ob, xs, z⟩
    · exact un.keep b o e z (List.not_mem_nil) (List.not_mem_nil)
    · have e1 := (hok b _ z).1
      rw [e] at e1
      cases e1
      exact (hok' b _ (un.frzs b _ _ z)).1
theorem law_callG (KX : K.In s₁.heap) (hns : s₁.heap.Ns mainGlobals mg) (hb : s₁.heap.Ns builtinsNs mb) (hbb : ∀ x : Str, x ≠ "__name__" → mb x = bootBuiltins x) (hlim : s₁.heap.NoLimit) (hg : s₁.gens = #[])
    (ha : s₁.heap.get? a = some { cls := .type "list", data := .seq vs.toArray }) (hi : IntsAre vs ns) (hl : ns.length ≤ sizeLine) (hr : Room k callerA)
    (F : ∀ base : Heap, K.In base → base.Ns mainGlobals mg → FnOkG P w K mg base CX k fa fd [x] sp) (hbind : ∀ (s : Shared) (u : Value), BindsTo s fd ⟨[u], []⟩ [(x, u)])
    (hsp : ∀ H : Hp, Only H → SqL K H a (ns.map V.int) → sp [.ref a] H (fun v _ => v = .bl true) fun _ _ _ => False) (hCX : ∀ H e s', CX [] H s₁ (fun _ _ _ => False) e s' → False) :
    codeAny (model P w) callerA (.call (.ref fa) ⟨[.ref a], []⟩) (fun r s' => r = .ok (.ret (.bool true)) ∧ OldK s₁.heap s'.heap ∧ s'.os = s₁.os ∧ AllBare s'.gens) s₁ := by
  have go := law_goG KX hns hb hbb hlim hg ha hr F hbind hCX
  cases hk : K.lookup a with
  | some o =>
    have e := KX a o hk
    rw [ha] at e
    cases e
    have hS : SqL K (fun _ => none) a (ns.map V.int) := .inr ⟨_, vs.toArray, _, hk, rfl, rfl, rfl, by rw [List.size_toArray, hi.length]; exact hl, vals_ints hi⟩
    exact go (fun _ => none) (fun _ => .inl rfl) (hsp _ (fun _ => .inl rfl) hS) (fun b u z => by cases z) (fun b z => absurd rfl z) fun z => absurd rfl z
  | none =>
    let H : Hp := fun b => if b = a then some (.frz { cls := .type "list", data := .seq vs.toArray } (.lst (ns.map V.int))) else none
    have Ha : H a = some (.frz { cls := .type "list", data := .seq vs.toArray } (.lst (ns.map V.int))) := if_pos rfl
    have Hb : ∀ b, b ≠ a → H b = none := fun b n => if_neg n
    have hO : Only H := fun b => by
      by_cases q : b = a
      · subst q; exact .inr ⟨_, _, Ha⟩
      · exact .inl (Hb b q)
    refine go H hO (hsp H hO (.inl (.inr ⟨_, Ha⟩))) (fun b u z => ?_) (fun b z => ?_) fun _ => hk
    · by_cases q : b = a
      · subst q
        rw [Ha] at z
        cases z
        exact ⟨ha, by rw [List.length_map]; exact hl, vs, _, vals_ints hi, ha⟩
      · rw [Hb b q] at z; cases z
    · by_cases q : b = a
      · exact q
      · exact absurd (Hb b q) z
end
theorem walk_ofG {l : PySem.W.OpenLaw} {n k : Nat} {q : Program} {loose : List Str} {XP : (Str → Option Value) → Heap → Prop} {YP : World → Heap → Prop} {d : DefRec} {CX : World → CXT} {x : Str}
    (hn : l.most = some n) (hn2 : n ≤ sizeLine) (hdf : d.params.defaults = []) (hr : Room k callerA)
    (F : ∀ (w : World) (mg : Str → Option Value) (fa : Addr) (h : Heap), YP w h → h.Ns mainGlobals mg → mg d.name = some (.ref fa) →
      ∃ (K : PySem.W.Frag) (fd : FuncData) (sp : Sp), K.In h ∧ (∀ (s : Shared) (u : Value), BindsTo s fd ⟨[u], []⟩ [(x, u)]) ∧
        (∀ (H : Hp) (a : Addr) (ns : List Int), ns.length ≤ n → Only H → SqL K H a (ns.map V.int) → sp [.ref a] H (fun v _ => v = .bl true) fun _ _ _ => False) ∧
        ∀ base : Heap, K.In base → base.Ns mainGlobals mg → FnOkG l.prog w K mg base (CX w) k fa fd [x] sp)
    (hCX : ∀ (w : World) (H : Hp) (s : Shared) (e : Value) (s' : Shared), CX w [] H s (fun _ _ _ => False) e s' → False) :
    PySem.W.WalkO q loose XP YP l.row.toRowW d [] (fun f vs => PySem.call f vs) := by
  refine Att.attach_call hn hdf fun w s₀ s₁ mg mb fa o pm cd doc a vs ns G Y ho hd hcd hmg hobj hints hlen hg => ?_
  obtain ⟨K, fd, sp, KX, hb, hsp, hF⟩ := F w mg fa _ Y G.T.g hmg
  exact law_callG KX G.T.g G.T.b G.T.builtins G.T.nolimit hg hobj hints (Nat.le_trans hlen hn2) hr hF hb (fun H hO hS => hsp H a ns hlen hO hS) fun H e s' => hCX w H s₁ e s'
end DL
set_option Elab.async false
set_option linter.all false
set_option maxRecDepth 100000
set_option maxHeartbeats 1000000
/-! DL25: repr of data. -/
namespace DL
open PySem L2 Evl PySem.Spec PyProof.Rows
def rRepr (K : PySem.W.Frag) : List V → Hp → VK → Prop := fun xs H Q => ∃ x d, xs = [x] ∧ Dp K H x d ∧ d.showable = true ∧ d.hasDict = false ∧ d.depth ≤ 40 ∧ d.shown.length ≤ sizeLine ∧ Q (.str d.shown) H
theorem call_reprD {X : Cx} {k : Nat} (hg : X.A.guards = some []) (hr : Room k X.A) : CallR X (.builtin "repr") (rRepr X.K) := by
  intro pins s σ H xs us Q I r h
  obtain ⟨x, d, rfl, dp, hs, hd, hz, hl, q⟩ := h
  obtain ⟨u, rfl, rx⟩ := vals1 r
  cases dp with
  | non => cases (show u = Value.none from rx); exact PySem.P.repr_of_none ⟨.str _, H, I.tok _, ⟨_, rfl⟩, q⟩
  | bl b => cases (show u = Value.bool b from rx); exact PySem.P.repr_of_bool ⟨.str _, H, I.tok _, ⟨_, rfl⟩, q⟩
  | int i => obtain ⟨t, rfl⟩ := rx; exact PySem.P.repr_of_int (by simpa [PyData.showable] using hs) ⟨.str _, H, I.tok _, ⟨_, rfl⟩, q⟩
  | str y => obtain ⟨t, rfl⟩ := rx; exact PySem.P.repr_of_str (hsz := hl) ⟨.str _, H, I.tok _, ⟨_, rfl⟩, q⟩
  | lst h1 h2 =>
    obtain ⟨as, rd⟩ := Dp.reads I _ _ _ (.lst h1 h2) rx
    cases (show u = Value.ref _ from rx)
    refine PySem.repr_of_reads' (hsz := hl) rd hs (PyData.noDict_hsm hd) hg (by have := hr.units; omega) (fun _ _ e => e) fun h' u tk hk => ⟨.str _, H, (I.kept (h' := h') (t' := tk) hk), ⟨_, rfl⟩, q⟩
  | tup h1 h2 =>
    obtain ⟨as, rd⟩ := Dp.reads I _ _ _ (.tup h1 h2) rx
    cases (show u = Value.ref _ from rx)
    refine PySem.repr_of_reads' (hsz := hl) rd hs (PyData.noDict_hsm hd) hg (by have := hr.units; omega) (fun _ _ e => e) fun h' u tk hk => ⟨.str _, H, (I.kept (h' := h') (t' := tk) hk), ⟨_, rfl⟩, q⟩
def D.shows (d : D) : Bool := D.ok 60 d && (d.py.showable && (!d.py.hasDict && (decide (d.py.depth ≤ 40) && decide (d.py.shown.length ≤ sizeLine))))
def fRepr : DB
  | [d], P => d.shows = true ∧ P (.str d.py.shown)
  | _, _ => False
theorem rc_repr {K : PySem.W.Frag} : RCall K (rRepr K) fRepr := by
  refine ⟨fun {xs P P'} hp h => ?_, fun {B F ρ σ H vs xs Q P} S r h k => ?_⟩
  · unfold fRepr at h ⊢; split at h <;> first | exact ⟨h.1, hp _ h.2⟩ | exact h.elim
  · unfold fRepr at h
    split at h
    · obtain ⟨v, rfl, r1⟩ := r.one
      obtain ⟨h1, h2⟩ := h
      unfold D.shows at h1
      simp only [Bool.and_eq_true, Bool.not_eq_true', decide_eq_true_eq] at h1
      exact ⟨_, _, rfl, Dp.mono S.ex (r1.dp h1.1), h1.2.1, h1.2.2.1, h1.2.2.2.1, h1.2.2.2.2, k _ h2 _ F H (Ex.refl _) S (.str _)⟩
    · exact h.elim
end DL
set_option Elab.async false
set_option linter.all false
set_option maxRecDepth 100000
set_option maxHeartbeats 4000000
/-! DL26: tuple * int, any small int. -/
namespace DL
open PySem L2 Evl PySem.Spec PyProof.Rows
theorem tuple_mul1W (l : Addr) (items : Array Value) (n : Nat) (dd : Option Addr) (sl : Array (Option Value)) (x : Int) (u : Tok) (c0 : (decide (x < -(2 ^ 63)) || decide (x ≥ 2 ^ 63)) = false) (c1 : (items.isEmpty || x == 1) = true) :
    Meets (Builtin.«tuple.__mul__» ⟨[.ref l, .int x u], []⟩) (fun _ R s => s.heap.get? l = some { cls := .type "tuple", dict := dd, data := .seq items n, slots := sl } ∧ R (.ok (.ret (Value.ref l))) s) :=
  .of_wp fun prog w A R s h => by
    obtain ⟨hp, g, d, tk, os⟩ := s
    obtain ⟨hl, h⟩ := h
    have f1 := AutoSeq1.idx_int
    wp_walk using wpAny_loadPart' hl
    repeat (first
      | (refine wpAny_ite_false (decide_eq_false (by rw [c0]; exact Bool.false_ne_true)) ?_; wp_walk using wpAny_loadPart' hl)
      | (refine wpAny_ite_true (decide_eq_true (by rw [c1])) ?_; wp_walk using wpAny_loadPart' hl))
    exact ⟨_, rfl, h⟩
theorem tuple_mul0W (l : Addr) (items : Array Value) (n : Nat) (dd : Option Addr) (sl : Array (Option Value)) (x : Int) (u : Tok) (c0 : (decide (x < -(2 ^ 63)) || decide (x ≥ 2 ^ 63)) = false) (c1 : (items.isEmpty || x == 1) = false) (c2 : (decide (x ≤ 0) || items.isEmpty) = true) :
    Meets (Builtin.«tuple.__mul__» ⟨[.ref l, .int x u], []⟩) (fun _ R s => s.heap.get? l = some { cls := .type "tuple", dict := dd, data := .seq items n, slots := sl } ∧
      R (.ok (.ret (Value.ref s.heap.objs.size))) { s with heap := s.heap.push { cls := Value.type "tuple", data := Data.seq #[] }, toks := s.toks }) :=
  .of_wp fun prog w A R s h => by
    obtain ⟨hp, g, d, tk, os⟩ := s
    obtain ⟨hl, h⟩ := h
    have f1 := AutoSeq1.idx_int
    wp_walk using wpAny_loadPart' hl
    repeat (first
      | (refine wpAny_ite_false (decide_eq_false (by rw [c0]; exact Bool.false_ne_true)) ?_; wp_walk using wpAny_loadPart' hl)
      | (refine wpAny_ite_false (decide_eq_false (by rw [c1]; exact Bool.false_ne_true)) ?_; wp_walk using wpAny_loadPart' hl)
      | (refine wpAny_ite_true (decide_eq_true (by rw [c2])) ?_; wp_walk using wpAny_loadPart' hl))
    exact ⟨_, rfl, h⟩
def rRep1 (K : PySem.W.Frag) : R2 := fun x y H Q => ∃ l k xs, x = .ref l ∧ y = .int k ∧ SqT K H l xs ∧ -1000 ≤ k ∧ k ≤ 1000 ∧ (xs = [] ∨ k = 1) ∧ Q x H
def rRep0 (K : PySem.W.Frag) : R2 := fun x y H Q => ∃ l k xs, x = .ref l ∧ y = .int k ∧ SqT K H l xs ∧ -1000 ≤ k ∧ k ≤ 0 ∧ xs ≠ [] ∧ ∀ p, H p = none → Q (.ref p) (upd H p (.tup []))
section
variable {X : Cx}
theorem op_rep1 : OpR X (binaryOp .Mult) (rRep1 X.K) := by
  intro pins s σ H x y v u Q I rx ry h
  obtain ⟨l, k, xs, rfl, rfl, hT, h1, h2, hh, q⟩ := h
  cases rx
  obtain ⟨t, rfl⟩ := ry
  obtain ⟨its, r, ⟨⟨cls, dd, data, sl⟩, ho, hc, n, hd⟩, hs⟩ := I.tuple hT
  simp only at hc hd
  subst hc hd
  have hle : its.length = xs.length := r.length.symm
  have c0 : (decide (k < -(2 ^ 63)) || decide (k ≥ 2 ^ 63)) = false := by
    rw [decide_eq_false (by omega), decide_eq_false (by omega)] <;> rfl
  have c1 : (its.toArray.isEmpty || k == 1) = true := by
    rcases hh with e | e
    · subst e
      have : its = [] := List.eq_nil_of_length_eq_zero hle
      subst this
      rfl
    · subst e; simp
  exact wpAny_binaryOp_repeat_ref (T := "tuple") (U := "int") (by decide) ⟨_, ho, rfl⟩ (fun s' => typeIs_int s' k t) noFill_tuple_mul F.fills_int_mul F.slot_int_rmul repeat_tuple F.slot_int_index.lookup
    (call_meets F.slot_int_rmul (typeIs_int s k t) F.entry_int_rmul (F.args_int_rmul_2 _ _) (int_rmul_tuple k t l its.toArray n dd sl)
      ⟨ho, rfl, ⟨_, ho, rfl⟩, call_meets F.slot_tuple_mul ⟨_, ho, rfl⟩ F.entry_tuple_mul (F.args_tuple_mul_2 _ _) (tuple_mul1W l its.toArray n dd sl k t c0 c1) ⟨ho, ⟨.ref l, H, I, rfl, q⟩⟩⟩)
theorem op_rep0 : OpR X (binaryOp .Mult) (rRep0 X.K) := by
  intro pins s σ H x y v u Q I rx ry h
  obtain ⟨l, k, xs, rfl, rfl, hT, h1, h2, hne, q⟩ := h
  cases rx
  obtain ⟨t, rfl⟩ := ry
  obtain ⟨its, r, ⟨⟨cls, dd, data, sl⟩, ho, hc, n, hd⟩, hs⟩ := I.tuple hT
  simp only at hc hd
  subst hc hd
  have hle : its.length = xs.length := r.length.symm
  have hi : its.toArray.isEmpty = false := by
    cases its with
    | nil => exact absurd (List.eq_nil_of_length_eq_zero hle.symm) hne
    | cons a b => rfl
  have c0 : (decide (k < -(2 ^ 63)) || decide (k ≥ 2 ^ 63)) = false := by
    rw [decide_eq_false (by omega), decide_eq_false (by omega)] <;> rfl
  have c1 : (its.toArray.isEmpty || k == 1) = false := by
    rw [hi, Bool.false_or]
    exact beq_eq_false_iff_ne.mpr (by omega)
  have c2 : (decide (k ≤ 0) || its.toArray.isEmpty) = true := by
    rw [decide_eq_true h2]; rfl
  refine wpAny_binaryOp_repeat_ref (T := "tuple") (U := "int") (by decide) ⟨_, ho, rfl⟩ (fun s' => typeIs_int s' k t) noFill_tuple_mul F.fills_int_mul F.slot_int_rmul repeat_tuple F.slot_int_index.lookup
    (call_meets F.slot_int_rmul (typeIs_int s k t) F.entry_int_rmul (F.args_int_rmul_2 _ _) (int_rmul_tuple k t l its.toArray n dd sl)
      ⟨ho, rfl, ⟨_, ho, rfl⟩, call_meets F.slot_tuple_mul ⟨_, ho, rfl⟩ F.entry_tuple_mul (F.args_tuple_mul_2 _ _) (tuple_mul0W l its.toArray n dd sl k t c0 c1 c2) ⟨ho, ?_⟩⟩)
  exact ⟨.ref s.heap.objs.size, _, I.laid (t' := s.toks) (o := .tup []) (fun b ob q => Heap.get?_push_of_some _ q) (Nat.le_refl _) ⟨Nat.zero_le _, [], .nil, IsTup.new _ _⟩, rfl, q _ (I.hok.fresh (Nat.le_refl _))⟩
def rRepA (K : PySem.W.Frag) : R2 := fun x y H Q => rRep1 K x y H Q ∨ rRep0 K x y H Q ∨ rRepT K x y H Q
theorem op_repA : OpR X (binaryOp .Mult) (rRepA X.K) := fun pins s σ H x y v u Q I rx ry h => by
  rcases h with h | h | h
  · exact op_rep1 pins s σ H x y v u Q I rx ry h
  · exact op_rep0 pins s σ H x y v u Q I rx ry h
  · exact op_repT pins s σ H x y v u Q I rx ry h
end
def dMulT : DOp
  | .tuple xs, .int k, P => (-1000 ≤ k ∧ k ≤ 1000 ∧ xs.length ≤ 1000) ∧ P (.tuple (List.replicate k.toNat xs).flatten)
  | _, _, _ => False
theorem ro_repA {K : PySem.W.Frag} : ROp K (rRepA K) dMulT := by
  refine ⟨⟨fun {x y P P'} hp h => ?_⟩, fun {B F ρ σ H v w x y Q P} S rx ry h k => ?_⟩
  · cases x <;> cases y <;> first | exact ⟨h.1, hp _ h.2⟩ | exact h.elim
  · cases x <;> cases y <;> try exact h.elim
    · rename_i xs n
      obtain ⟨⟨h1, h2, h3⟩, h4⟩ := h
      obtain ⟨a, vs, rfl, ha, r⟩ := rx.tuple_inv
      cases ry.int_inv
      have hl := r.length
      by_cases q1 : vs = [] ∨ n = 1
      · refine .inl ⟨a, n, vs, rfl, rfl, xl_t S.ex ha, h1, h2, q1, k _ h4 _ F H (Ex.refl _) S ?_⟩
        have : (List.replicate n.toNat xs).flatten = xs := by
          rcases q1 with e | e
          · subst e
            have : xs = [] := List.eq_nil_of_length_eq_zero hl.symm
            subst this
            simp
          · subst e; simp
        rw [this]; exact rx
      · have hne : vs ≠ [] := fun z => q1 (.inl z)
        by_cases q2 : n ≤ 0
        · refine .inr (.inl ⟨a, n, vs, rfl, rfl, xl_t S.ex ha, h1, q2, hne, fun p hp => ?_⟩)
          obtain ⟨e, S'⟩ := S.alloc (o := .tup []) hp
          refine k _ h4 _ _ _ e S' ?_
          have : n.toNat = 0 := by omega
          rw [this]
          exact .tup upd_same .nil
        · have q3 : n ≠ 1 := fun z => q1 (.inr z)
          refine .inr (.inr ⟨a, n, vs, rfl, rfl, xl_t S.ex ha, hne, by omega, h2, by omega, fun p hp => ?_⟩)
          obtain ⟨e, S'⟩ := S.alloc (o := .tup (List.replicate n.toNat vs).flatten) hp
          exact k _ h4 _ _ _ e S' (.tup upd_same ((r.flatten_replicate _).mono e))
end DL
set_option Elab.async false
set_option linter.all false
set_option maxRecDepth 100000
set_option maxHeartbeats 1000000
/-! DL27: calls with defaults, with keywords alone; of defs that show. -/
namespace DL
open PySem L2 Evl
/-- the arguments and the defaults behind them -/
def aApp (das : DAs) (cs : List D) : DAs := fun ρ X K => das ρ X fun as ρ1 => K (as ++ cs.map .d) ρ1
theorem mono_aApp {das : DAs} {cs : List D} (m : MonoA das) : MonoA (aApp das cs) := ⟨fun hx hk h => m.go hx (fun _ _ h => hk _ _ h) h⟩
theorem AvR.app {K : PySem.W.Frag} {F : Hp} {σ : L2.St} : ∀ {vs : List V} {as : List AV} {ws : List V} {ds : List D}, AvR K F σ vs as → Reps K F ws ds → AvR K F σ (vs ++ ws) (as ++ ds.map .d)
  | [], [], _, _, _, r => avR_d r
  | _ :: _, .d _ :: _, _, _, h, r => ⟨h.1, AvR.app h.2 r⟩
  | _ :: _, .bor _ :: _, _, _, h, r => ⟨h.1, AvR.app h.2 r⟩
  | [], _ :: _, _, _, h, _ => by simp [AvR] at h
  | _ :: _, [], _, _, h, _ => by simp [AvR] at h
section
variable {X : Cx} {W : WX} {a b c e : Expr} {da db de : DE} {das : DAs} {es : List Expr} {pos p : Pos} {dc : DC}
theorem callTD {n : Nat} {E : L2.St → XK} {dvs : List V} {cs : List D} (hc : ∀ F, Reps X.K F dvs cs) (hE : ∀ σ cls d H, W cls d σ H → E σ cls d H) (m : MonoC dc) (ma : MonoA das) {σ : L2.St} {H : Hp} {Q : VK} (h : liftE X.K W (eCall n dc (aApp das cs)) σ H Q) : liftA X.K W das σ H fun vs H1 => spD X.K n dc (vs ++ dvs) H1 Q (E σ) := by
  obtain ⟨B, Fz, ρ, S, h⟩ := h
  refine liftA.of ma (Ex.refl _) S h fun as ρ1 h vs F1 H1 e1 S1 r1 => ?_
  obtain ⟨hlen, hbo, h⟩ := h
  refine call_data (XX := xl X.K W B Fz σ) (KK := fun r ρ' => ∀ v F' H', Ex Fz F' → St X.K B F' ρ' σ H' → Rep X.K F' v r.toD → Q v H') hlen S1 (r1.app (hc F1)) hbo m h (fun x ρ' h F' H' dd v e S' h1 h2 => hE _ _ _ _ (h F' H' dd v (e1.trans e) S' h1 h2)) fun r ρ' h v F' H' e S' h1 => ?_
  obtain ⟨F2, e2, S2, r2⟩ := h1.toD S'
  exact h v F2 H' ((e1.trans e).trans e2) S2 r2
theorem pd_callD {k : Nat} {f : Addr} {fd : FuncData} {ps : List Str} {x : Str} {n : Nat} {dvs : List V} {cs : List D} {ds : List Value} (m : MonoC dc) (F : FnOk X.prog X.w X.K X.mg X.base (L2.CX X.prog X.w) k f fd ps (spD X.K n dc)) (hr : Room k X.A) (hg : Gl X x) (hm : X.mg x = some (.ref f)) (hk : PySem.W.keepIn X.K (.ref f) = true) (hb : Binds X.K fd ps ds) (hd : Vals dvs ds) (hc : ∀ F, Reps X.K F dvs cs)
    (tk : Takes X W) (ha : PDA X W (e :: es) das) (hdb : (x == ("__debug__" : Str)) = false := by decide) (he : starEach (e :: es) X.env = (false, eval e X.env) :: starEach es X.env := by rfl) (hpl : (backTo pos (starEach es X.env)).any (·.1) = false := by rfl) :
    PD X W (.Call (.Name x p) (e :: es) [] pos) (eCall n dc (aApp das cs)) :=
  ⟨mono_eCall m (mono_aApp ha.mono), PE.imp (pe_callSD (E := WE W) F hr hg hm hk hb hd (fun σ => passAt tk σ) ha.run hdb he hpl) fun σ H Q h => callTD hc (fun σ cls d H h => h) m ha.mono h⟩
/-- a def that shows -/
theorem pd_callG {k : Nat} {f : Addr} {fd : FuncData} {ps : List Str} {x : Str} {n : Nat} (m : MonoC dc) (F : FnOkG X.prog X.w X.K X.mg X.base (L2.CX X.prog X.w) k f fd ps (spD X.K n dc)) (hgd : X.A.guards = some []) (hr : Room k X.A) (hg : Gl X x) (hm : X.mg x = some (.ref f)) (hk : PySem.W.keepIn X.K (.ref f) = true) (hb : Binds X.K fd ps [])
    (tk : Takes X W) (ha : PDA X W (e :: es) das) (hdb : (x == ("__debug__" : Str)) = false := by decide) (he : starEach (e :: es) X.env = (false, eval e X.env) :: starEach es X.env := by rfl) (hpl : (backTo pos (starEach es X.env)).any (·.1) = false := by rfl) :
    PD X W (.Call (.Name x p) (e :: es) [] pos) (eCall n dc das) := by
  refine ⟨mono_eCall m ha.mono, PE.imp (pe_callG (E := WE W) F hgd hr hg hm hk hb .nil (fun σ => passAt tk σ) ha.run hdb he hpl) fun σ H Q h => ?_⟩
  have := callT (E := WE W) (fun σ cls d H h => h) m ha.mono h
  simpa [tCallSD] using this
/-! ### keywords alone -/
def perm {α : Type} (π : List Nat) (xs : List α) : List α := π.filterMap (xs[·]?)
theorem perm_vals : ∀ (π : List Nat) {vs : List V} {us : List Value}, Vals vs us → Vals (perm π vs) (perm π us)
  | [], _, _, _ => .nil
  | i :: π, vs, us, r => by
    unfold perm
    rw [List.filterMap_cons, List.filterMap_cons]
    cases hv : vs[i]? with
    | none =>
      have : us[i]? = none := by rw [List.getElem?_eq_none_iff] at hv ⊢; rw [← r.length]; exact hv
      rw [this]; exact perm_vals π r
    | some v =>
      obtain ⟨u, hu, ru⟩ := r.get hv
      rw [hu]
      exact .cons ru (perm_vals π r)
theorem perm_reps {K : PySem.W.Frag} {F : Hp} : ∀ (π : List Nat) {vs : List V} {ds : List D}, Reps K F vs ds → Reps K F (perm π vs) (perm π ds)
  | [], _, _, _ => .nil
  | i :: π, vs, ds, r => by
    unfold perm
    rw [List.filterMap_cons, List.filterMap_cons]
    cases hv : ds[i]? with
    | none =>
      have : vs[i]? = none := by rw [List.getElem?_eq_none_iff] at hv ⊢; rw [r.length]; exact hv
      rw [this]; exact perm_reps π r
    | some d =>
      obtain ⟨v, hv2, rv⟩ := r.get_some hv
      rw [hv2]
      exact .cons rv (perm_reps π r)
structure PDK (X : Cx) (W : WX) (kws : List Keyword) (das : DAs) : Prop where
  mono : MonoA das
  run : PK X kws (liftA X.K W das)
theorem PK.imp {kws : List Keyword} {t t' : TA} (h : PK X kws t) (hi : ∀ σ H Q, t' σ H Q → t σ H Q) : PK X kws t' := ⟨fun pos pins s σ H Q I q => h.run pos pins s σ H Q I (hi σ H Q q)⟩
theorem pdk_nil : PDK X W [] aNil := ⟨mono_aNil, PK.imp pk_nil fun σ H Q ⟨B, F, ρ, S, h⟩ => h [] F H (Ex.refl _) S trivial⟩
theorem pdk_cons {nm : Option Str} {kpos : Pos} {kws : List Keyword} (h1 : PD X W a da) (h2 : PDK X W kws das) : PDK X W (⟨nm, a, kpos⟩ :: kws) (aCons da das) :=
  ⟨mono_aCons h1.mono h2.mono, PK.imp (pk_cons h1.run h2.run) fun σ H Q ⟨B, F, ρ, S, h⟩ => liftE.of h1.mono (Ex.refl _) S h fun x ρ1 h v F1 H1 e1 S1 r1 =>
    liftA.of h2.mono e1 S1 h fun xs ρ2 h vs F2 H2 e2 S2 r2 => h (v :: vs) F2 H2 (e1.trans e2) S2 ⟨r1.mono e2, r2⟩⟩
theorem pe_callN0 {CX : CXT} {k : Nat} {f : Addr} {fd : FuncData} {ps ks : List Str} {sp : Sp} {E : XK} {x : Str} {kws : List Keyword} {tk : TA} {g : List Value → List Value → List Value} {gV : List V → List V → List V} (F : FnOk X.prog X.w X.K X.mg X.base CX k f fd ps sp) (hr : Room k X.A) (hg : Gl X x) (hm : X.mg x = some (.ref f)) (hk : PySem.W.keepIn X.K (.ref f) = true) (hb : KBn X.K fd ps 0 ks g gV) (hx : Passes CX X E)
    (hkw : PK X kws tk) (hall : (backToKw pos (keywordEach kws X.env)).all (·.1.isSome) = true := by rfl) (hks : (backToKw pos (keywordEach kws X.env)).filterMap (·.1) = ks := by rfl) (hdb : (x == ("__debug__" : Str)) = false := by decide)
    (hpl : ((backTo pos (starEach [] X.env)).any (·.1) || (backToKw pos (keywordEach kws X.env)).any (·.1.isNone)) = false := by rfl) :
    PE X (.Call (.Name x p) [] kws pos) (tCallN 0 ks.length sp gV E tNil tk) := by
  refine ⟨fun pins s σ H Q I h => ?_⟩
  refine wpAny_Call_Name_kw (ld_glob I hg hm ?_ hdb)
  refine PySem.W.callWith_KW0 (h₀ := X.base) I.ok.mod.kin hk hall ?_ hpl
  refine thn (hkw.run pos pins s σ H _ I h) fun ws s2 ⟨zs, H2, I2, rz, l1, l2, q2⟩ => ⟨I2.kIn, ?_⟩
  rw [hks]
  exact run_fnN F hr hb hx I2 .nil rz l1 l2 q2
/-- f(k = v, ..): nothing raised -/
def eCallK (n m : Nat) (π : List Nat) (dc : DC) (das : DAs) : DE := fun ρ X K => das ρ X fun as ρ1 => allD as fun ds => ds.length = m ∧ (perm π ds).length = n ∧ dc ((perm π ds).map .fz) (fun _ _ => False) fun r _ => K r.toD ρ1
theorem mono_eCallK {n k : Nat} {π : List Nat} (m : MonoC dc) (ma : MonoA das) : MonoE (eCallK n k π dc das) := ⟨fun hx hk h => ma.go hx (fun as ρ h => allD.mono (fun ds h => ⟨h.1, h.2.1, m.go (fun _ _ h => h) (fun r o h => hk _ _ h) h.2.2⟩) h) h⟩
theorem callTK {n k : Nat} {π : List Nat} (m : MonoC dc) (ma : MonoA das) {σ : L2.St} {H : Hp} {Q : VK} (h : liftE X.K W (eCallK n k π dc das) σ H Q) : liftA X.K W das σ H fun zs H2 => ([] : List V).length = 0 ∧ zs.length = k ∧ spD X.K n dc (perm π zs) H2 Q (fun _ _ _ => False) := by
  obtain ⟨B, Fz, ρ, S, h⟩ := h
  refine liftA.of ma (Ex.refl _) S h fun as ρ1 h vs F1 H1 e1 S1 r1 => ?_
  obtain ⟨ds, r, hm, hn, h⟩ := allD.reps r1 h
  refine ⟨rfl, by rw [r.length]; exact hm, ?_⟩
  refine call_data (XX := fun _ _ => False) (KK := fun r ρ' => ρ' = ρ1 ∧ ∀ v F' H', Ex Fz F' → St X.K B F' ρ1 σ H' → Rep X.K F' v r.toD → Q v H') (as := (perm π ds).map .d) (by simpa using hn) S1 (avR_d (perm_reps π r)) (borOk_d _) m (by
    rw [argsOf_d]
    exact m.go (fun _ _ h => h) (fun r o h => ⟨putOuts_d _ _, fun v F' H' e S' rr => h v F' H' e S' rr⟩) h) (fun x ρ' h => h.elim) fun r ρ' h v F' H' e S' h1 => ?_
  obtain ⟨rfl, h⟩ := h
  obtain ⟨F2, e2, S2, r2⟩ := h1.toD S'
  exact h v F2 H' ((e1.trans e).trans e2) S2 r2
theorem pd_callK0 {k : Nat} {f : Addr} {fd : FuncData} {ps ks : List Str} {x : Str} {n m : Nat} {π : List Nat} {kws : List Keyword} {g : List Value → List Value → List Value} {gV : List V → List V → List V} (mc : MonoC dc) (F : FnOk X.prog X.w X.K X.mg X.base (L2.CX X.prog X.w) k f fd ps (spD X.K n dc)) (hr : Room k X.A) (hg : Gl X x) (hm : X.mg x = some (.ref f)) (hk : PySem.W.keepIn X.K (.ref f) = true) (hb : KBn X.K fd ps 0 ks g gV) (hgV : ∀ zs, gV [] zs = perm π zs) (hmm : ks.length = m)
    (hkw : PDK X W kws das) (hall : (backToKw pos (keywordEach kws X.env)).all (·.1.isSome) = true := by rfl) (hks : (backToKw pos (keywordEach kws X.env)).filterMap (·.1) = ks := by rfl) (hdb : (x == ("__debug__" : Str)) = false := by decide)
    (hpl : ((backTo pos (starEach [] X.env)).any (·.1) || (backToKw pos (keywordEach kws X.env)).any (·.1.isNone)) = false := by rfl) :
    PD X W (.Call (.Name x p) [] kws pos) (eCallK n m π dc das) :=
  ⟨mono_eCallK mc hkw.mono, PE.imp (pe_callN0 F hr hg hm hk hb pass0 hkw.run hall hks hdb hpl) fun σ H Q h => by
    subst hmm
    have := callTK mc hkw.mono h
    show liftA _ _ _ σ H _
    simp only [hgV]
    exact this⟩
/-- the binding by keywords, of a def without defaults -/
theorem kbn0 {K : PySem.W.Frag} {x qual : Str} {params : Arguments} {body : List Stmt} {scope : Scope} {kws : List (Str × V)} {f : Addr} {fd : FuncData} {ps : List Str} (F : FunD K x qual params body scope [] kws f fd) (ks : List Str) (π : List Nat)
    (h : ∀ (kV doc pm : Value) (an : Option Addr) (cdv ct : Value) (ws : List Value), ws.length = ks.length → bindArgs (PySem.W.fnOf x qual params body scope .none kV doc pm an cdv ct) ⟨[], ks.zip ws⟩ = pure (ps.zip (perm π ws))) : KBn K fd ps 0 ks (fun _ ws => perm π ws) (fun _ zs => perm π zs) := by
  obtain ⟨oc, od, dV, kV, doc, pm, an, cdv, ct, osl, rfl, lk, hcd, hD, hK⟩ := F.ex
  rcases hD with ⟨_, rfl⟩ | ⟨e, _⟩
  · refine ⟨fun s us ws _ h1 h2 => ?_, fun _ r => perm_vals π r⟩
    have : us = [] := List.length_eq_zero_iff.mp h1
    subst this
    exact .of_eq (h kV doc pm an cdv ct ws h2)
  · exact absurd rfl e
end
end DL
set_option Elab.async false
set_option linter.all false
set_option maxRecDepth 100000
set_option maxHeartbeats 1000000
/-! DL28: x in a list or tuple. -/
namespace DL
open PySem L2 Evl
def dIn : DOp := fun x y P => match y with
  | .list ys => (D.ok 60 x = true ∧ D.ok 60 (.list ys) = true) ∧ P (.bool (ys.any fun z => deq z x))
  | .tuple ys => match x with
    | .int i => ofS (asInts ys) fun ns => P (.bool (decide (i ∈ ns)))
    | _ => False
  | _ => False
theorem inV_ints (i : Int) : ∀ ns : List Int, inV (.int i) (ns.map V.int) = decide (i ∈ ns)
  | [] => rfl
  | n :: ns => by
    have ih := inV_ints i ns
    unfold inV at ih ⊢
    rw [List.map_cons, List.any_cons, ih]
    have : eqV (V.int n) (V.int i) = decide (n = i) := by
      simp only [eqV]; exact Bool.beq_eq_decide_eq _ _
    rw [this]
    by_cases q : n = i
    · subst q; simp
    · have : ¬ i = n := fun z => q z.symm
      simp [q, this]
theorem flat_ints (ns : List Int) : (ns.map V.int).all flatV = true := by
  rw [List.all_eq_true]
  intro x hx
  obtain ⟨n, _, rfl⟩ := List.mem_map.mp hx
  rfl
theorem any_pys (f : PyData → Bool) : ∀ ys : List D, (pys ys).any f = ys.any fun z => f z.py
  | [] => rfl
  | y :: ys => by rw [pys, List.any_cons, List.any_cons, any_pys f ys]
def rInB (K : PySem.W.Frag) : R2 := fun x y H Q => rInD K x y H Q ∨ rIn K false x y H Q
theorem op_inB {X : Cx} {k : Nat} (hr : Room k X.A) : OpR X (compareOp .In) (rInB X.K) := fun pins s σ H x y v u Q I rx ry h => by
  rcases h with h | h
  · exact op_inD (by have := hr.un; omega) pins s σ H x y v u Q I rx ry h
  · exact op_in_seq pins s σ H x y v u Q I rx ry h
theorem ro_in {K : PySem.W.Frag} : ROp K (rInB K) dIn := by
  refine ⟨⟨fun {x y P P'} hp h => ?_⟩, fun {B F ρ σ H v w x y Q P} S rx ry h k => ?_⟩
  · cases y <;> try exact h.elim
    · exact ⟨h.1, hp _ h.2⟩
    · cases x <;> try exact h.elim
      exact ofS.mono (fun ns h => hp _ h) h
  · cases y <;> try exact h.elim
    · rename_i ys
      obtain ⟨⟨h1, h2⟩, h3⟩ := h
      refine .inl ⟨x.py, pys ys, Dp.mono S.ex (rx.dp h1), Dp.mono S.ex (ry.dp h2), ok_shaped h1, ok_shaped h2, ?_⟩
      rw [any_pys]
      exact k _ h3 _ F H (Ex.refl _) S (.bool _)
    · cases x <;> try exact h.elim
      rename_i ys i
      obtain ⟨ns, e, h⟩ := ofS.eq h
      rw [asInts_eq e] at ry
      obtain ⟨a, ws, rfl, ha, r⟩ := ry.tuple_inv
      rw [r.ints] at ha
      cases rx.int_inv
      refine .inr ⟨a, ns.map V.int, rfl, .inr (xl_t S.ex ha), rfl, flat_ints ns, ?_⟩
      show Q (.bl (inV (.int i) (ns.map V.int))) H
      rw [inV_ints]
      exact k _ h _ F H (Ex.refl _) S (.bool _)
end DL
set_option Elab.async false
set_option linter.all false
set_option maxRecDepth 100000
set_option maxHeartbeats 1000000
/-! DL29: contracts that are a body's own reading. -/
namespace DL
open PySem L2 Evl PyProof.Rows
/-- what a body with this reading promises -/
def dcOf (ds : DS) (n : Nat) : DC := fun args XX R => ∃ (XX' : Exn → List Sl → Prop) (R' : Rv → List Sl → Prop), (∀ x o, XX' x o → XX x o) ∧ (∀ r o, R' r o → R r o) ∧ ds (fill n args) (postF args XX' R')
theorem mono_dcOf {ds : DS} {n : Nat} : MonoC (dcOf ds n) := ⟨fun hx hk ⟨XX', R', h1, h2, h⟩ => ⟨XX', R', fun x o q => hx _ _ (h1 x o q), fun r o q => hk _ _ (h2 r o q), h⟩⟩
theorem dcOf.intro {ds : DS} {n : Nat} {args : List Sl} {XX : Exn → List Sl → Prop} {R : Rv → List Sl → Prop} (h : ds (fill n args) (postF args XX R)) : dcOf ds n args XX R := ⟨XX, R, fun _ _ q => q, fun _ _ q => q, h⟩
theorem postF_le {args : List Sl} {XX XX' : Exn → List Sl → Prop} {R R' : Rv → List Sl → Prop} (h1 : ∀ x o, XX' x o → XX x o) (h2 : ∀ r o, R' r o → R r o) : (postF args XX' R').Le (postF args XX R) :=
  ⟨fun ρ h => h2 _ _ h, fun r ρ h => h2 _ _ h, fun ρ h => h, fun ρ h => h, fun x ρ h => h1 _ _ h⟩
theorem body_of2 {K : PySem.W.Frag} {n : Nat} {s : DS} {N : List Str} {vs : List V} {H : Hp} {Q : VK} {E : XK} (hsp : spD K n (dcOf s N.length) vs H Q E) (ms : MonoS s) : liftS K (fun cls d _ H => E cls d H) s { nx := fun _ H' => Q .non H', rt := Q } (L2.start N vs) H :=
  body_of hsp ms (fun _ _ _ _ h => h) fun args XX R _ ⟨XX', R', h1, h2, h⟩ => ms.go (postF_le h1 h2) h
/-- an own dict or list is handed back -/
def dRetS (i : Nat) : DS := fun ρ P => match gt ρ i with
  | .ow false c => P.rt (.nw c) (ρ.set i .un)
  | _ => False
theorem pds_retS {X : Cx} {W : WX} {pos p : Pos} (i : Nat) {x : Str} (hN : X.N[i]? = some x := by rfl) (hv : Vis X.env.scope x := by first | exact Or.inl rfl | exact Or.inr (Or.inl rfl) | exact Or.inr (Or.inr rfl)) (hd : (x == ("__debug__" : Str)) = false := by decide)
    (hcd : (x == ("__classdict__" : Str)) = false := by decide) : PDS X W (.Return (some (.Name x p)) pos) (dRetS i) := by
  refine ⟨⟨fun {ρ P P'} le h => ?_⟩, PS.imp (ps_ret (pe_var (i := i) hN hv hd hcd)) fun D σ H ⟨B, F, ρ, S, h⟩ => ?_⟩
  · unfold dRetS at h ⊢
    split at h
    · exact le.rt _ _ h
    · exact h.elim
  · unfold dRetS at h
    split at h
    · rename_i c hs
      obtain ⟨a, e1, ow, h0, _⟩ := S.ow hs
      have hr : i < ρ.length := lt_of_getD (by unfold gt at hs; rw [hs]; rfl)
      refine ⟨_, e1, h _ F σ H (Ex.refl _) (S.drop i) (.nw ⟨a, rfl, ow, h0 rfl, fun j hj z => ?_⟩)⟩
      by_cases q : i = j
      · subst q; rw [getD_set_self hr] at hj; cases hj
      · rw [getD_set_ne q] at hj
        exact q (S.own i j a (by unfold gt at hs; rw [hs]; rfl) hj e1 z)
    · exact h.elim
theorem okG_of {CX : CXT} {P : Program} {w : World} {K : PySem.W.Frag} {mg : Str → Option Value} {base : Heap} {x qual : Str} {params : Arguments} {body : List Stmt} {scope : Scope} {dvs : List V} {kws : List (Str × V)} {f : Addr} {fd : FuncData} {N ps : List Str} {k : Nat} {sp : Sp} (F : FunD K x qual params body scope dvs kws f fd) (S : FnScope N ps scope) (len : ∀ vs H Q E, sp vs H Q E → vs.length = ps.length)
    (hbody : ∀ (cdv : Value) (A : Around) (outer : List PySem.Env) (s : Shared) (H : Hp) (vs : List V) (Q : VK) (E : XK), (A.deeper (envOfC qual scope s.heap.objs.size f cdv)).guards = some [] → Room k (A.deeper (envOfC qual scope s.heap.objs.size f cdv)) → sp vs H Q E →
      ∃ t, PSs (cxOf CX P w K mg base N qual scope f cdv A outer s H E) body t ∧ t { nx := fun _ H' => Q .non H', rt := Q } (start N vs) H) : FnOkG P w K mg base CX (k + 1) f fd ps sp := by
  obtain ⟨oc, od, dV, kV, doc, pm, an, cdv, ct, osl, rfl, lk, hcd, _, _⟩ := F.ex
  exact fnG_of lk hcd S len fun A outer s H vs Q E hgd hr hsp => hbody cdv A outer s H vs Q E hgd hr hsp
end DL
set_option Elab.async false
set_option linter.all false
set_option maxRecDepth 100000
set_option maxHeartbeats 1000000
/-! DL30: name = {.. for ..} on one line, the name a plain local. -/
namespace DL
open PySem L2 Evl PySem.Spec PyProof.Rows
section
variable {X : Cx} {W : WX} {a b c e elt tg iter kx vx : Expr} {dk dv : DE} {dt : DT} {di : DI} {es ifs : List Expr} {pos p : Pos}
theorem ps_setDc {i : Nat} {y : Str} {py : Pos} {scope : Scope} {own : List (Str × Nat)} {spos : Pos} {wi : TI} {g : TG} {tt : TT} {tk tv : TE} (hc : X.calm = true) (hN : X.N.Nodup) (hy : X.N[i]? = some y) (hyl : X.env.scope.names.lookup y = some .local)
    (hsw : swapsWith (.DictComp kx vx [⟨tg, iter, ifs, 0⟩] scope pos) (some (.Name y py)) spos.line X.env = pure true) (hi : PI X tg iter wi) (ok : BlkOk X.N X.env.scope scope own)
    (hg : ∀ (s : Shared) (H : Hp) (C : Addr) (cl : List (Str × Addr)) (fp : List Addr), PG (X.blk s H scope (compEnvC scope cl C X.env) fp) tg g) (ht : ∀ (s : Shared) (H : Hp) (C : Addr) (cl : List (Str × Addr)) (fp : List Addr), PTs (X.blk s H scope (compEnvC scope cl C X.env) fp) ifs tt)
    (hk : ∀ (s : Shared) (H : Hp) (C : Addr) (cl : List (Str × Addr)) (fp : List Addr), PE (X.blk s H scope (compEnvC scope cl C X.env) fp) kx tk)
    (he : ∀ (s : Shared) (H : Hp) (C : Addr) (cl : List (Str × Addr)) (fp : List Addr), PE (X.blk s H scope (compEnvC scope cl C X.env) fp) vx tv) (hs : ∀ x, foldedSetIterable iter X.env x = pure x := by intro _; rfl) :
    PS X (.Assign [.Name y py] (.DictComp kx vx [⟨tg, iter, ifs, 0⟩] scope pos) spos) (tAsg (tDc wi g tt tk tv (own.map (·.2))) (gName i)) := by
  refine ⟨fun pins s σ H D I h => ?_⟩
  rw [exec_Assign_Name_used _ _ _ _ hsw]
  refine wpAny_bind (wpAny_standAt (wpAny_bind ?_))
  show wpAny _ X.A (do let _ ← comprehension (.DictComp kx vx [⟨tg, iter, ifs, 0⟩] scope pos) scope X.env (firstIterPos [⟨tg, iter, ifs, 0⟩] pos) newDict false (eval iter X.env) (some (assign (.Name y py) X.env))) _ _ s
  have h : tDc wi g tt tk tv (own.map (·.2)) σ H (fun x H1 => gName i x σ H1 D.nx) := h
  refine wpAny_bind (thn (dc_core (Qf := fun _ s' => SP X pins D .next s') hc hN I hi ok hg ht hk he hs h fun L C s' m H' I' q hn f => ?_) fun _ s' hq => wpAny_pure (wpAny_pure hq))
  show wpAny _ _ (assign (.Name y py) X.env (.ref L)) _ _ _
  refine wpAny_assign_Name (store_ok2 (v := V.ref L) I' hN hy (.inl hyl) rfl (fun s2 I2 ⟨a, sb, ha⟩ => ?_) (.inr hyl))
  obtain ⟨f0, f1, f2, f3, f4, f5⟩ := f
  have haC : C ≠ a := by
    rcases ha with z | z
    · rw [z]; exact f1
    · exact fun e => f4 y a z e.symm
  refine ⟨m, hn.sameBut sb haC, fun h3 sb3 => ?_⟩
  exact ⟨_, H', I2.turned (t' := s2.toks) (fun b o hb e => (sb3.2 b hb).trans e) f0 f1 f3 f4 f5, q⟩
theorem sw_trueD {gs : List Comprehension} {scope : Scope} {pos py : Pos} {y : Str} {l : Nat} {env : PySem.Env} (hk : env.scope.kind = .function) (hy : env.scope.names.lookup y = some .local) (hl : (py.line == pos.line) = true)
    (ha : (scope.names.any fun (n, k) => n == y && (k == .local || k == .cell)) = false) : swapsWith (.DictComp kx vx gs scope pos) (some (.Name y py)) l env = pure true := by
  have ky : env.kindOf y = some .local := hy
  have hb : env.blockKind = .function := by unfold PySem.Env.blockKind; rw [hk]; rfl
  unfold swapsWith
  simp only [hb, ky, ha, Expr.pos, hl]
  rfl
theorem pds_ownDc {i : Nat} {y : Str} {py spos : Pos} {dg : DG} {g : TG} {is vs : List Nat} {scope : Scope} {own : List (Str × Nat)} (hc : X.calm = true) (hN : X.N.Nodup) (hy : X.N[i]? = some y) (hyl : X.env.scope.names.lookup y = some .local)
    (hsw : swapsWith (.DictComp kx vx [⟨tg, iter, ifs, 0⟩] scope pos) (some (.Name y py)) spos.line X.env = pure true) (hi : PDI X W tg iter di) (ok : BlkOk X.N X.env.scope scope own) (hv : own.map (·.2) = vs)
    (hg : ∀ (s : Shared) (H : Hp) (C : Addr) (cl : List (Str × Addr)) (fp : List Addr), PDG (X.blk s H scope (compEnvC scope cl C X.env) fp) tg g dg is) (his : ∀ j ∈ is, j ∈ vs)
    (ht : ∀ (s : Shared) (H : Hp) (C : Addr) (cl : List (Str × Addr)) (fp : List Addr), PDTs (X.blk s H scope (compEnvC scope cl C X.env) fp) W0 ifs dt)
    (hk : ∀ (s : Shared) (H : Hp) (C : Addr) (cl : List (Str × Addr)) (fp : List Addr), PD (X.blk s H scope (compEnvC scope cl C X.env) fp) W0 kx dk)
    (he : ∀ (s : Shared) (H : Hp) (C : Addr) (cl : List (Str × Addr)) (fp : List Addr), PD (X.blk s H scope (compEnvC scope cl C X.env) fp) W0 vx dv) (hs : ∀ x, foldedSetIterable iter X.env x = pure x := by intro _; rfl) :
    PDS X W (.Assign [.Name y py] (.DictComp kx vx [⟨tg, iter, ifs, 0⟩] scope pos) spos) (dOwn (nDC di dg dt dk dv vs) i) := by
  subst hv
  have mg := (hg X.s_0 X.H_0 0 [] []).mono
  have mt := (ht X.s_0 X.H_0 0 [] []).mono
  have mk := (hk X.s_0 X.H_0 0 [] []).mono
  have me := (he X.s_0 X.H_0 0 [] []).mono
  have mn := mono_nDC (vs := own.map (·.2)) hi.mono mg mt mk me
  refine ⟨⟨fun le q => mn.go le.ex (fun c ρ q => le.nx _ q) q⟩, PS.imp (ps_setDc (tt := liftT X.K W0 dt) (tk := liftE X.K W0 dk) (tv := liftE X.K W0 dv) hc hN hy hyl hsw hi.run ok (fun s H C cl fp => (hg s H C cl fp).pg) (fun s H C cl fp => (ht s H C cl fp).run) (fun s H C cl fp => (hk s H C cl fp).run) (fun s H C cl fp => (he s H C cl fp).run) hs)
    fun D σ H ⟨B, F, ρ, S, q⟩ => ?_⟩
  have h := liftN.ofS (Q := fun v H => gName i v σ H D.nx) mn S q fun d ρ1 q v F1 H1 e1 S1 r1 => q F1 _ H1 e1 (S1.set_ow' r1)
  obtain ⟨B, F, ρ, S, h⟩ := h
  exact ⟨B, F, ρ, S, hi.mono.go (fun _ _ h => h) (fun ds ρ1 h J B' F1 H1 l e1 S1 Y => dc_turn (Xb := X.blk X.s_0 X.H_0 scope (compEnvC scope [] 0 X.env) []) rfl (hg _ _ _ _ _) mt mk me his l e1 S1 Y h) h⟩
end
end DL
set_option Elab.async false
set_option linter.all false
set_option maxRecDepth 100000
set_option maxHeartbeats 1000000
/-! DL31: the readings, step by step. -/
namespace DL
open PySem L2 Evl
section
variable {ρ ρ1 : Env} {P : DP} {X : XP} {K : D → Env → Prop} {KB : Bool → Env → Prop} {KN : Ct → Env → Prop} {KA : List AV → Env → Prop} {KI : List D → Env → Prop} {KM : List Itm → Env → Prop} {KE : Env → Prop} {KO : Option Int → Env → Prop}
  {s t : DS} {de da db dc' dk dv : DE} {ta tb : DT} {dn : NE} {das : DAs} {dg : DG} {dgs : DGs} {di : DI} {dm : DM} {dl dh : DPart} {i j n m : Nat} {d e : D} {c : Ct} {b : Bool} {f f' : DOp} {dc : DC} {ds : List D} {as : List AV} {Q : D → Prop} {QB : Bool → Prop} {QL : List D → Prop} {C : Addr} {lay : List Str}
/-! statements -/
theorem w_seq (h : s ρ { nx := fun ρ' => t ρ' P, rt := P.rt, bk := P.bk, ct := P.ct, ex := P.ex }) : dSeq s t ρ P := h
theorem w_next (h : P.nx ρ) : dNext ρ P := h
theorem w_break (h : P.bk ρ) : dBreak ρ P := h
theorem w_cont (h : P.ct ρ) : dCont ρ P := h
theorem w_ret (h : de ρ P.ex fun d ρ' => P.rt (.d d) ρ') : dRet de ρ P := h
theorem w_retN (h : dn ρ P.ex fun d ρ' => P.rt (.nw d) ρ') : dRetN dn ρ P := h
theorem w_retS (g : gt ρ i = .ow false c) (h : P.rt (.nw c) (ρ.set i .un)) : dRetS i ρ P := by unfold dRetS; rw [g]; exact h
theorem w_if (h : ta ρ P.ex fun b ρ1 => if b = true then s ρ1 P else t ρ1 P) : dIf ta s t ρ P := h
theorem w_asg (h : de ρ P.ex fun d ρ1 => dg d ρ1 P.nx) : dAsg de dg ρ P := h
theorem w_own (h : dn ρ P.ex fun c ρ1 => P.nx (ρ1.set i (.ow false c))) : dOwn dn i ρ P := h
theorem w_drop (h : de ρ P.ex fun _ ρ' => P.nx ρ') : dDrop de ρ P := h
theorem w_app {bb : Bool} {xs : List D} (g : gt ρ i = .ow bb (.lst xs)) (h : de ρ P.ex fun y ρ1 => owL (gt ρ1 i) fun b ds => ds.length ≤ 1000000 ∧ P.nx (ρ1.set i (.ow b (.lst (ds ++ [y]))))) : dApp i de ρ P := by unfold dApp; rw [g]; exact h
theorem w_owL {bb : Bool} {xs : List D} {sl : Sl} {k : Bool → List D → Prop} (g : sl = .ow bb (.lst xs)) (h : k bb xs) : owL sl k := by rw [g]; exact h
theorem w_owC {bb : Bool} {sl : Sl} {k : Bool → Ct → Prop} (g : sl = .ow bb c) (h : k bb c) : owC sl k := by rw [g]; exact h
theorem w_par {is : List Nat} (h : dm ρ P.ex fun its ρ1 => is.length = its.length ∧ P.nx (setItms is its ρ1)) : dPar is dm ρ P := h
theorem w_aug (g : gt ρ i = .fz d) (h : de ρ P.ex fun y ρ1 => f d y fun z => P.nx (ρ1.set i (.fz z))) : dAug i f de ρ P := by unfold dAug ofFz; rw [g]; exact h
theorem w_for (h : di ρ P.ex fun ds ρ1 => forL dg s ds ρ1 P) : dFor di dg s ρ P := h
theorem w_lk (g : isDk (gt ρ i)) (h : s ρ { P with ex := fun _ _ => False }) : dLk i s ρ P := ⟨g, h⟩
theorem w_nlk (g : isDk (gt ρ i)) (h : dn ρ X0 KN) : nLk i dn ρ X KN := ⟨g, h⟩
theorem w_iteT {A B : Prop} (h : A) : if true = true then A else B := by rw [if_pos rfl]; exact h
theorem w_iteF {A B : Prop} (h : B) : if false = true then A else B := by rw [if_neg (by decide)]; exact h
theorem w_iteNT {A B : Prop} (h : B) : if (!true) = true then A else B := by rw [if_neg (by decide)]; exact h
theorem w_iteNF {A B : Prop} (h : A) : if (!false) = true then A else B := by rw [if_pos (by decide)]; exact h
theorem w_iteT' {A B : Prop} {b : Bool} (q : b = true) (h : A) : if b = true then A else B := by rw [if_pos q]; exact h
theorem w_iteF' {A B : Prop} {b : Bool} (q : b = false) (h : B) : if b = true then A else B := by rw [if_neg (by rw [q]; decide)]; exact h
/-! targets -/
theorem w_gname (h : KE (ρ.set i (.fz d))) : dgName i d ρ KE := h
theorem w_gtup (hl : ds.length = n) (h : dgs ds ρ KE) : dgTup n dgs (.tuple ds) ρ KE := ⟨hl, h⟩
theorem w_gcons (h : dg d ρ fun ρ' => dgs ds ρ' KE) : dgCons dg dgs (d :: ds) ρ KE := h
theorem w_gnil (h : KE ρ) : dgNil [] ρ KE := ⟨rfl, h⟩
theorem w_gsub (g : isOw (gt ρ i) = true) (h : dk ρ X0 fun j ρ2 => owC (gt ρ2 i) fun b c => ofPut (ctPut c j d) fun c' => KE (ρ2.set i (.ow b c'))) : dgSub i dk d ρ KE := ⟨g, h⟩
theorem w_put {o : Option Ct} {k : Ct → Prop} (g : o = some c) (h : k c) : ofPut o k := by rw [g]; exact h
/-! values -/
theorem w_var (g : gt ρ i = .fz d) (h : K d ρ) : eVarF i ρ X K := by unfold eVarF; rw [g]; exact h
theorem w_varO (g : gt ρ i = .ow false c) (h : K c.d (ρ.set i (.fz c.d))) : eVarF i ρ X K := by unfold eVarF; rw [g]; exact h
theorem w_c (h : K d ρ) : eC d ρ X K := h
theorem w_op (h : da ρ X fun x ρ1 => db ρ1 X fun y ρ2 => f x y fun z => K z ρ2) : eOp f da db ρ X K := h
theorem w_and (h : da ρ X fun d ρ1 => asB d fun c => if c = true then db ρ1 X K else K (.bool false) ρ1) : eAnd da db ρ X K := h
theorem w_or (h : da ρ X fun d ρ1 => asB d fun c => if c = true then K (.bool true) ρ1 else db ρ1 X K) : eOr da db ρ X K := h
theorem w_not (h : da ρ X fun d ρ1 => asB d fun c => K (.bool (!c)) ρ1) : eNot da ρ X K := h
theorem w_neg (h : da ρ X fun d ρ1 => match d with
  | .int i => K (.int (-i)) ρ1
  | _ => False) : eNeg da ρ X K := h
theorem w_ifE (h : ta ρ X fun c ρ1 => if c = true then da ρ1 X K else db ρ1 X K) : eIf ta da db ρ X K := h
theorem w_chain (h : da ρ X fun x ρ1 => db ρ1 X fun y ρ2 => f x y fun z => asB z fun k => if k = true then dc' ρ2 X fun w ρ3 => f' y w fun u => K u ρ3 else K (.bool false) ρ2) : eChain f f' da db dc' ρ X K := h
theorem w_asB (h : QB b) : asB (.bool b) QB := h
theorem w_tup (h : das ρ X fun as ρ' => allD as fun ds => ds.length ≤ 1000000 ∧ K (.tuple ds) ρ') : eTup das ρ X K := h
theorem w_lst (h : das ρ X fun as ρ' => allD as fun ds => ds.length ≤ 1000000 ∧ K (.list ds) ρ') : eLst das ρ X K := h
theorem w_nlst (h : das ρ X fun as ρ' => allD as fun ds => ds.length ≤ 1000000 ∧ KN (.lst ds) ρ') : nLst das ρ X KN := h
theorem w_len0 {A : Prop} {k : Nat} (hk : k ≤ 1000000) (h : A) : k ≤ 1000000 ∧ A := ⟨hk, h⟩
theorem w_allN (h : QL []) : allD [] QL := h
theorem w_allD (h : allD as fun xs => QL (d :: xs)) : allD (.d d :: as) QL := h
theorem w_anil (h : KA [] ρ) : aNil ρ X KA := h
theorem w_acons (h : de ρ X fun x ρ1 => das ρ1 X fun xs ρ2 => KA (.d x :: xs) ρ2) : aCons de das ρ X KA := h
theorem w_abor (g : isOw (gt ρ i) = true) (h : das ρ X fun xs ρ2 => KA (.bor i :: xs) ρ2) : aBor i das ρ X KA := ⟨g, h⟩
theorem w_aapp {cs : List D} (h : das ρ X fun as ρ1 => KA (as ++ cs.map .d) ρ1) : aApp das cs ρ X KA := h
theorem w_fz (h : dn ρ X fun c ρ' => K c.d ρ') : eFz dn ρ X K := h
theorem w_nC (h : KN c ρ) : nC c ρ X KN := h
theorem w_d1K (h : dk ρ X fun k ρ1 => dv ρ1 X fun v ρ2 => ofS k.key fun kk => KN (.dct [(kk, v)]) ρ2) : nD1K dk dv ρ X KN := h
theorem w_d1T (h : dk ρ X fun k ρ1 => dv ρ1 X fun v ρ2 => ofS k.keys fun kk => KN (.dctT [(kk, v)]) ρ2) : nD1T dk dv ρ X KN := h
theorem w_ofS {α : Type} {o : Option α} {x : α} {k : α → Prop} (g : o = some x) (h : k x) : ofS o k := by rw [g]; exact h
theorem w_is {g : D → Option Bool} (h : de ρ X fun d ρ1 => ofS (g d) fun b => K (.bool b) ρ1) : eIs g de ρ X K := h
theorem w_mnil (h : KM [] ρ) : mNil ρ X KM := h
theorem w_md (h : de ρ X fun x ρ1 => dm ρ1 X fun its ρ2 => KM (.d x :: its) ρ2) : mD de dm ρ X KM := h
theorem w_mn (h : dn ρ X fun x ρ1 => dm ρ1 X fun its ρ2 => KM (.c x :: its) ρ2) : mN dn dm ρ X KM := h
/-! reads of slots -/
theorem w_ixS (g : isOw (gt ρ i) = true) (h : db ρ X fun k ρ1 => match k with
  | .int j => ofLst (gt ρ1 i) fun ds => ∃ d, atI ds j = some d ∧ K d ρ1
  | _ => False) : eIxS i db ρ X K := ⟨g, h⟩
theorem w_ofL {bb : Bool} {xs : List D} {sl : Sl} {k : List D → Prop} (g : sl = .ow bb (.lst xs)) (h : k xs) : ofLst sl k := by rw [g]; exact h
theorem w_lenS {bb : Bool} {xs : List D} (g : gt ρ i = .ow bb (.lst xs)) (hl : xs.length ≤ 1000000) (h : K (.int xs.length) ρ) : eLenS i ρ X K := by unfold eLenS; rw [g]; exact ⟨hl, h⟩
theorem w_pop {bb : Bool} {xs : List D} (g : gt ρ i = .ow bb (.lst xs)) (hd : xs[xs.length - 1]? = some d) (h : K d (ρ.set i (.ow bb (.lst xs.dropLast)))) : ePop i ρ X K := by unfold ePop; rw [g]; exact ⟨d, hd, h⟩
theorem w_getS (g : isOw (gt ρ i) = true) (h : dk ρ X fun k ρ1 => owC (gt ρ1 i) fun _ c => ∃ d, dget c.d k = some (some d) ∧ K d ρ1) : eGetS i dk ρ X K := ⟨g, h⟩
theorem w_get (h : da ρ X fun c ρ1 => dk ρ1 X fun k ρ2 => ∃ d, dget c k = some (some d) ∧ K d ρ2) : eGet da dk ρ X K := h
theorem w_inS (h : dk ρ X fun k ρ1 => owC (gt ρ1 i) fun _ c => ∃ o, dget c.d k = some o ∧ KB o.isSome ρ1) : tInS false i dk ρ X KB := h
theorem w_notinS (h : dk ρ X fun k ρ1 => owC (gt ρ1 i) fun _ c => ∃ o, dget c.d k = some o ∧ KB (!o.isSome) ρ1) : tInS true i dk ρ X KB := h
theorem w_in (h : dk ρ X fun k ρ1 => da ρ1 X fun c ρ2 => ∃ o, dget c k = some o ∧ KB o.isSome ρ2) : tIn false dk da ρ X KB := h
theorem w_notin (h : dk ρ X fun k ρ1 => da ρ1 X fun c ρ2 => ∃ o, dget c k = some o ∧ KB (!o.isSome) ρ2) : tIn true dk da ρ X KB := h
theorem w_attr (h : da ρ X fun d ρ1 => match d with
  | .ob C' lay' xs => C' = C ∧ lay' = lay ∧ ∃ x, xs[j]? = some x ∧ K x ρ1
  | _ => False) : eAttr C lay j da ρ X K := h
theorem w_ex {α : Type} {p : α → Prop} {q : Prop} {x : α} {o : Option α} {k : α → Prop} (g : o = some x) (h : k x) : ∃ d, o = some d ∧ k d := ⟨x, g, h⟩
theorem w_exA {xs : List D} {k : Int} {q : D → Prop} (g : atI xs k = some d) (h : q d) : ∃ d, atI xs k = some d ∧ q d := ⟨d, g, h⟩
theorem w_attr2 {xs : List D} {x : D} {k : D → Prop} (g : xs[j]? = some x) (h : k x) : C = C ∧ lay = lay ∧ ∃ x, xs[j]? = some x ∧ k x := ⟨rfl, rfl, x, g, h⟩
theorem w_slice (h : da ρ X fun x ρ1 => dl ρ1 X fun lo ρ2 => dh ρ2 X fun hi ρ3 => dSl x lo hi fun z => K z ρ3) : eSl da dl dh ρ X K := h
theorem w_on (h : KO none ρ) : oNone ρ X KO := h
theorem w_os (h : de ρ X fun d ρ1 => match d with
  | .int i => KO (some i) ρ1
  | _ => False) : oSome de ρ X KO := h
theorem w_slT {xs : List D} {lo hi : Option Int} (h : Q (.tuple (cutD xs lo hi))) : dSl (.tuple xs) lo hi Q := h
theorem w_slL {xs : List D} {lo hi : Option Int} (h : Q (.list (cutD xs lo hi))) : dSl (.list xs) lo hi Q := h
/-! calls -/
theorem w_call (h : das ρ X fun as ρ1 => as.length = n ∧ borOk ρ1 as = true ∧ dc (argsOf ρ1 as) (fun x outs => X x (putOuts as outs ρ1)) fun r outs => K r.toD (putOuts as outs ρ1)) : eCall n dc das ρ X K := h
theorem w_ncall (h : das ρ X fun as ρ1 => as.length = n ∧ borOk ρ1 as = true ∧ dc (argsOf ρ1 as) (fun x outs => X x (putOuts as outs ρ1)) fun r outs => match r with
  | .d _ => False
  | .nw c => KN c (putOuts as outs ρ1)) : nCall n dc das ρ X KN := h
theorem w_and3 {A : Prop} {as : List AV} (h1 : as.length = n) (h2 : borOk ρ as = true) (h : A) : as.length = n ∧ borOk ρ as = true ∧ A := ⟨h1, h2, h⟩
theorem w_callK {π : List Nat} (h : das ρ X fun as ρ1 => allD as fun ds => ds.length = m ∧ (perm π ds).length = n ∧ dc ((perm π ds).map .fz) (fun _ _ => False) fun r _ => K r.toD ρ1) : eCallK n m π dc das ρ X K := h
theorem w_and3K {A : Prop} {π : List Nat} (h1 : ds.length = m) (h2 : (perm π ds).length = n) (h : A) : ds.length = m ∧ (perm π ds).length = n ∧ A := ⟨h1, h2, h⟩
theorem w_make (h : das ρ X fun as ρ1 => allD as fun ds => ds.length + 1 = n ∧ dc (.ow true (.ins C [] []) :: ds.map .fz) (fun _ _ => False) fun r outs => r = .d .none ∧ match outs with
  | .ow _ c :: _ => KN c ρ1
  | _ => False) : nMake C n dc das ρ X KN := h
theorem w_fldS {f : Str} {xs : List D} {bb : Bool} (g : gt ρ i = .ow bb (.ins C lay xs)) (h : ofS (fldGet f lay xs) fun d => K d ρ) : eFldS C f i ρ X K := by unfold eFldS; rw [g]; exact ⟨rfl, h⟩
theorem w_fld {f : Str} (h : dv ρ P.ex fun y ρ1 => owC (gt ρ1 i) fun b c => match c with
  | .ins C' lay xs => C' = C ∧ xs.length < 900 ∧ P.nx (ρ1.set i (.ow b (.ins C (fldPut f y lay xs).1 (fldPut f y lay xs).2)))
  | _ => False) : dFld C f i dv ρ P := h
theorem w_eB {fb : DB} (h : das ρ X fun as ρ' => allD as fun ds => fb ds fun z => K z ρ') : eB fb das ρ X K := h
/-! tests -/
theorem w_bV (h : de ρ X fun d ρ' => asB d fun b => KB b ρ') : bV de ρ X KB := h
theorem w_bAnd (h : ta ρ X fun c ρ1 => if c = true then tb ρ1 X KB else KB false ρ1) : bAnd ta tb ρ X KB := h
theorem w_bOr (h : ta ρ X fun c ρ1 => if c = true then KB true ρ1 else tb ρ1 X KB) : bOr ta tb ρ X KB := h
theorem w_bNot (h : ta ρ X fun c ρ1 => KB (!c) ρ1) : bNot ta ρ X KB := h
theorem w_bYes (h : KB true ρ) : bYes ρ X KB := h
/-! operators on data -/
theorem w_addI {a b : Int} (h : Q (.int (a + b))) : dAdd (.int a) (.int b) Q := h
theorem w_addT {xs ys : List D} (hl : xs.length + ys.length ≤ sizeLine) (h : Q (.tuple (xs ++ ys))) : dAdd (.tuple xs) (.tuple ys) Q := ⟨hl, h⟩
theorem w_addL {xs ys : List D} (hl : xs.length + ys.length ≤ sizeLine) (h : Q (.list (xs ++ ys))) : dAdd (.list xs) (.list ys) Q := ⟨hl, h⟩
theorem w_dII {cc : Int → Int → Prop} {g : Int → Int → D} {a b : Int} (hc : cc a b) (h : Q (g a b)) : dII cc g (.int a) (.int b) Q := ⟨hc, h⟩
theorem w_dI0 {g : Int → Int → D} {a b : Int} (h : Q (g a b)) : dI0 g (.int a) (.int b) Q := h
theorem w_mulI {a b : Int} (hc : CMul a b) (h : Q (.int (a * b))) : dMul (.int a) (.int b) Q := ⟨hc, h⟩
theorem w_mulT {xs : List D} {k : Int} (hc : -1000 ≤ k ∧ k ≤ 1000 ∧ xs.length ≤ 1000) (h : Q (.tuple (List.replicate k.toNat xs).flatten)) : dMulT (.tuple xs) (.int k) Q := ⟨hc, h⟩
theorem w_eq {neg : Bool} (hc : D.ok 60 d = true ∧ D.ok 60 e = true) (h : Q (.bool (if neg then !deq d e else deq d e))) : dEqD neg d e Q := ⟨hc, h⟩
theorem ok_int (n : Nat) (i : Int) : D.ok n (.int i) = true := by cases n <;> rfl
theorem deq_int (i j : Int) : deq (.int i) (.int j) = decide (i = j) := by
  unfold deq D.py PyData.eqv
  exact Bool.beq_eq_decide_eq _ _
theorem w_eqI {a b : Int} (h : Q (.bool (decide (a = b)))) : dEqD false (.int a) (.int b) Q := ⟨⟨ok_int _ _, ok_int _ _⟩, by rw [if_neg (by decide), deq_int]; exact h⟩
theorem w_neI {a b : Int} (h : Q (.bool (!decide (a = b)))) : dEqD true (.int a) (.int b) Q := ⟨⟨ok_int _ _, ok_int _ _⟩, by rw [if_pos rfl, deq_int]; exact h⟩
theorem w_isN {neg : Bool} (h : Q (.bool (if neg then !isNoneD d else isNoneD d))) : dIsN neg d .none Q := h
theorem w_isB {neg a b : Bool} (h : Q (.bool (if neg then !decide (a = b) else decide (a = b)))) : dIsB neg (.bool a) (.bool b) Q := h
theorem w_ixL {xs : List D} {k : Int} (g : atI xs k = some d) (h : Q d) : dIx (.list xs) (.int k) Q := ⟨d, g, h⟩
theorem w_ixT {xs : List D} {k : Int} (g : atI xs k = some d) (h : Q d) : dIx (.tuple xs) (.int k) Q := ⟨d, g, h⟩
theorem w_ixR {xs : List D} {k : Int} (g : atI xs k = some d) (h : Q d) : dIx (.rol xs) (.int k) Q := ⟨d, g, h⟩
theorem w_inL {ys : List D} (hc : D.ok 60 d = true ∧ D.ok 60 (.list ys) = true) (h : Q (.bool (ys.any fun z => deq z d))) : dIn d (.list ys) Q := ⟨hc, h⟩
/-! built-ins -/
theorem w_lenL {xs : List D} (h : Q (.int xs.length)) : fLen [.list xs] Q := h
theorem w_lenT {xs : List D} (h : Q (.int xs.length)) : fLen [.tuple xs] Q := h
theorem w_lenR {xs : List D} (h : Q (.int xs.length)) : fLen [.rol xs] Q := h
theorem w_abs {a : Int} (h : Q (.int a.natAbs)) : fAbs [.int a] Q := h
theorem w_int {a : Int} (h : Q (.int a)) : fInt [.int a] Q := h
theorem w_min {a b : Int} (h : Q (.int (min a b))) : fMin [.int a, .int b] Q := h
theorem w_max {a b : Int} (h : Q (.int (max a b))) : fMax [.int a, .int b] Q := h
theorem w_tupL {xs : List D} (h : Q (.tuple xs)) : fTuple [.list xs] Q := h
theorem w_tupT {xs : List D} (h : Q (.tuple xs)) : fTuple [.tuple xs] Q := h
theorem w_lstD {kvs : List (Key × D)} (h : Q (.list (kvs.map fun kv => keyD kv.1))) : fListD [.dict kvs] Q := h
theorem w_sort {ns : List Int} {xs : List D} (g : asInts xs = some ns) (h : ∀ ns' : List Int, ns'.Perm ns → ns'.Pairwise (· ≤ ·) → Q (.list (ns'.map .int))) : fSortI [.list xs] Q := show ofS (asInts xs) _ from w_ofS g h
theorem w_any {bs : List Bool} {xs : List D} (g : asBools xs = some bs) (h : Q (.bool (bs.any id))) : fAny [.list xs] Q := show ofS (asBools xs) _ from w_ofS g h
theorem w_all {bs : List Bool} {xs : List D} (g : asBools xs = some bs) (h : Q (.bool (bs.all id))) : fAll [.list xs] Q := show ofS (asBools xs) _ from w_ofS g h
theorem w_repr (g : d.shows = true) (h : Q (.str d.py.shown)) : fRepr [d] Q := ⟨g, h⟩
/-! walks -/
theorem w_iseq (h : da ρ X fun d ρ1 => seqD d fun xs => KI xs ρ1) : iSeq da ρ X KI := h
theorem w_sqL {xs : List D} (h : QL xs) : seqD (.list xs) QL := h
theorem w_sqT {xs : List D} (h : QL xs) : seqD (.tuple xs) QL := h
theorem w_ir1 {a : Int} (ha : inR a) (g : ∀ k : List AV → Env → Prop, k [.d (.int a)] ρ1 → das ρ X k) (h : KI (rangeD 0 1 a.toNat) ρ1) : iR1 das ρ X KI := g _ ⟨ha, h⟩
theorem w_ir2 {a b : Int} (ha : inR a) (hb : inR b) (g : ∀ k : List AV → Env → Prop, k [.d (.int a), .d (.int b)] ρ1 → das ρ X k) (h : KI (rangeD a 1 (b - a).toNat) ρ1) : iR2 das ρ X KI := g _ ⟨ha, hb, h⟩
theorem w_ien (h : das ρ X fun as ρ1 => allD as fun ds => match ds with
  | [d] => seqD d fun xs => KI (enumD 0 xs) ρ1
  | _ => False) : iEn das ρ X KI := h
theorem w_izp (h : das ρ X fun as ρ1 => allD as fun ds => match ds with
  | [.list xs, .list ys] => KI (zipD xs ys) ρ1
  | [.tuple xs, .tuple ys] => KI (zipD xs ys) ρ1
  | _ => False) : iZp das ρ X KI := h
theorem w_ir1' (h : das ρ X fun as ρ1 => allD as fun ds => match ds with
  | [.int j] => inR j ∧ KI (rangeD 0 1 j.toNat) ρ1
  | _ => False) : iR1 das ρ X KI := h
theorem w_ir2' (h : das ρ X fun as ρ1 => allD as fun ds => match ds with
  | [.int i, .int j] => inR i ∧ inR j ∧ KI (rangeD i 1 (j - i).toNat) ρ1
  | _ => False) : iR2 das ρ X KI := h
theorem w_inR {a : Int} {A : Prop} (ha : inR a) (h : A) : inR a ∧ A := ⟨ha, h⟩
theorem w_itv (g : gt ρ i = .fz d) (q : dItems d = some ds) (h : KI ds ρ) : iItV i ρ X KI := by unfold iItV ofFz; rw [g]; exact w_ofS q h
theorem w_kyv (g : gt ρ i = .fz d) (q : dKeys d = some ds) (h : KI ds ρ) : iKyV i ρ X KI := by unfold iKyV ofFz; rw [g]; exact w_ofS q h
theorem w_itn (h : dn ρ X fun c ρ1 => ofS (dItems c.d) fun ds => KI ds ρ1) : iItN dn ρ X KI := h
theorem w_nlc {dt : DT} {vs : List Nat} (h : di ρ X fun ds ρ1 => ds.length ≤ 1000000 ∧ lcL dg dt de vs ds [] (wipeE vs ρ1) fun acc ρ2 => KN (.lst acc) (restE vs ρ1 (wipeE vs ρ2))) : nLC di dg dt de vs ρ X KN := h
theorem w_ndc {dt : DT} {vs : List Nat} (h : di ρ X fun ds ρ1 => ds.length ≤ 1000000 ∧ dcL dg dt dk dv vs ds [] (wipeE vs ρ1) fun acc ρ2 => KN (.dct acc) (restE vs ρ1 (wipeE vs ρ2))) : nDC di dg dt dk dv vs ρ X KN := h
/-! loops -/
theorem forL_go {I : List D → Env → Prop} (hs : ∀ d ds ρ (Kx : Env → Prop), (∀ ρ', I ds ρ' → Kx ρ') → I (d :: ds) ρ → dg d ρ fun ρ1 => s ρ1 { nx := Kx, rt := P.rt, bk := P.nx, ct := Kx, ex := P.ex }) (he : ∀ ρ, I [] ρ → P.nx ρ) : ∀ {ds : List D} {ρ : Env}, I ds ρ → forL dg s ds ρ P
  | [], _, h => he _ h
  | d :: ds, ρ, h => hs d ds ρ (fun ρ' => forL dg s ds ρ' P) (fun ρ' q => forL_go hs he q) h
theorem lcL_go {dt : DT} {vs : List Nat} {I : List D → List D → Env → Prop} {Kl : List D → Env → Prop} (hs : ∀ d ds acc ρ (Kx : List D → Env → Prop), (∀ acc' ρ', I ds acc' ρ' → Kx acc' ρ') → I (d :: ds) acc ρ → dg d ρ fun ρ1 => dt ρ1 X0 fun b ρ2 => if b = true then de ρ2 X0 fun y ρ3 => Kx (acc ++ [y]) (wipeE vs ρ3) else Kx acc (wipeE vs ρ2))
    (he : ∀ acc ρ, I [] acc ρ → Kl acc ρ) : ∀ {ds acc : List D} {ρ : Env}, I ds acc ρ → lcL dg dt de vs ds acc ρ Kl
  | [], _, _, h => he _ _ h
  | d :: ds, acc, ρ, h => hs d ds acc ρ (fun acc' ρ' => lcL dg dt de vs ds acc' ρ' Kl) (fun acc' ρ' q => lcL_go hs he q) h
theorem dcL_go {dt : DT} {vs : List Nat} {I : List D → List (Key × D) → Env → Prop} {Kl : List (Key × D) → Env → Prop} (hs : ∀ d ds acc ρ (Kx : List (Key × D) → Env → Prop), (∀ acc' ρ', I ds acc' ρ' → Kx acc' ρ') → I (d :: ds) acc ρ → dg d ρ fun ρ1 => dt ρ1 X0 fun b ρ2 => if b = true then dk ρ2 X0 fun k ρ3 => dv ρ3 X0 fun v ρ4 => ofS k.key fun kk => Kx (dPut acc kk v) (wipeE vs ρ4) else Kx acc (wipeE vs ρ2))
    (he : ∀ acc ρ, I [] acc ρ → Kl acc ρ) : ∀ {ds : List D} {acc : List (Key × D)} {ρ : Env}, I ds acc ρ → dcL dg dt dk dv vs ds acc ρ Kl
  | [], _, _, h => he _ _ h
  | d :: ds, acc, ρ, h => hs d ds acc ρ (fun acc' ρ' => dcL dg dt dk dv vs ds acc' ρ' Kl) (fun acc' ρ' q => dcL_go hs he q) h
theorem while_go {I : Nat → Env → Prop} (hs : ∀ k ρ (Kx : Env → Prop), (∀ j ρ', j < k → I j ρ' → Kx ρ') → I k ρ → ta ρ P.ex fun b ρ1 => if b = true then s ρ1 { nx := Kx, rt := P.rt, bk := P.nx, ct := Kx, ex := P.ex } else P.nx ρ1) : ∀ {k : Nat} {ρ : Env}, I k ρ → dWhile ta s ρ P := by
  have key : ∀ k ρ, I k ρ → ∀ n, k < n → whileN ta s n ρ P := by
    intro k
    induction k using Nat.strongRecOn with
    | _ k ih =>
      intro ρ h n hn
      cases n with
      | zero => omega
      | succ n => exact hs k ρ (fun ρ' => whileN ta s n ρ' P) (fun j ρ' hj q => ih j hj ρ' q n (by omega)) h
  exact fun {k ρ} h => ⟨k + 1, key k ρ h (k + 1) (Nat.lt_succ_self k)⟩
end
end DL
namespace DL
section
variable {dg : DG} {dt : DT} {de dk dv : DE} {vs : List Nat} {ρ : Env}
/-- a comprehension that maps -/
theorem lcL_map (f : D → D) {Kl : List D → Env → Prop} : ∀ {ds acc : List D}, (∀ d ∈ ds, ∀ K : D → Env → Prop, (∀ ρ3, wipeE vs ρ3 = ρ → K (f d) ρ3) → dg d ρ fun ρ1 => de ρ1 X0 K) → Kl (acc ++ ds.map f) ρ → lcL dg bYes de vs ds acc ρ Kl
  | [], acc, _, hk => by
    show Kl acc ρ
    simpa using hk
  | d :: ds, acc, h, hk => h d (by simp) (fun y ρ3 => lcL dg bYes de vs ds (acc ++ [y]) (wipeE vs ρ3) Kl) fun ρ3 e => by
    rw [e]
    exact lcL_map f (fun x hx => h x (by simp [hx])) (by simpa using hk)
/-- .. that maps and drops -/
theorem lcL_filter (p : D → Bool) (f : D → D) {Kl : List D → Env → Prop} : ∀ {ds acc : List D}, (∀ d ∈ ds, ∀ (K : Bool → Env → Prop), (∀ ρ2, wipeE vs ρ2 = ρ → (∀ K2 : D → Env → Prop, (∀ ρ3, wipeE vs ρ3 = ρ → K2 (f d) ρ3) → de ρ2 X0 K2) → K (p d) ρ2) → dg d ρ fun ρ1 => dt ρ1 X0 K) → Kl (acc ++ (ds.filter p).map f) ρ → lcL dg dt de vs ds acc ρ Kl
  | [], acc, _, hk => by
    show Kl acc ρ
    simpa using hk
  | d :: ds, acc, h, hk => h d (by simp) (fun b ρ2 => if b = true then de ρ2 X0 fun y ρ3 => lcL dg dt de vs ds (acc ++ [y]) (wipeE vs ρ3) Kl else lcL dg dt de vs ds acc (wipeE vs ρ2) Kl) fun ρ2 e he => by
    cases q : p d with
    | true =>
      rw [if_pos rfl]
      refine he _ fun ρ3 e3 => ?_
      rw [e3]
      exact lcL_filter p f (fun x hx => h x (by simp [hx])) (by simpa [List.filter_cons, q] using hk)
    | false =>
      rw [if_neg (by decide), e]
      exact lcL_filter p f (fun x hx => h x (by simp [hx])) (by simpa [List.filter_cons, q] using hk)
end
end DL
set_option Elab.async false
set_option linter.all false
set_option maxRecDepth 100000
set_option maxHeartbeats 1000000
/-! DL32: what repr may show: bounds that add up. -/
namespace DL
open PySem L2 Evl PySem.Spec PyProof.Rows
theorem so_app {x y : Str} (hx : PyData.strOk x = true) (hy : PyData.strOk y = true) : PyData.strOk (x ++ y) = true := by
  show ((x.cps ++ y.cps).all fun x => decide (x < 1114112)) = true
  rw [Array.all_append]
  unfold PyData.strOk at hx hy
  rw [hx, hy]; rfl
theorem so_join : ∀ (ts : List Str), (∀ t ∈ ts, PyData.strOk t = true) → PyData.strOk ((Str.ofString ", ").join ts) = true
  | [], _ => by with_unfolding_all decide
  | [t], h => h t (by simp)
  | t :: u :: ts, h => by
    have ih := so_join (u :: ts) fun x hx => h x (List.mem_cons_of_mem _ hx)
    show PyData.strOk ((t ++ Str.ofString ", ") ++ (Str.ofString ", ").join (u :: ts)) = true
    exact so_app (so_app (h t (by simp)) (by with_unfolding_all decide)) ih
structure Shw (d : D) (k z : Nat) : Prop where
  ok : ∀ m, k ≤ m → D.ok m d = true
  sh : d.py.showable = true
  nd : d.py.hasDict = false
  dp : d.py.depth ≤ k
  ln : d.py.shown.length ≤ z
  eq : d.py.eqv d.py = true
  so : PyData.strOk d.py.shown = true
theorem Shw.shows {d : D} {k z : Nat} (s : Shw d k z) (hk : k ≤ 40) (hz : z ≤ 1000000) : d.shows = true := by
  unfold D.shows
  rw [s.ok 60 (by omega), s.sh, s.nd, decide_eq_true (Nat.le_trans s.dp hk), decide_eq_true (Nat.le_trans s.ln (Nat.le_trans hz (by rw [sizeLine_eq]; decide)))]
  rfl
theorem shw_none : Shw .none 0 4 := ⟨fun m _ => by cases m <;> rfl, rfl, rfl, Nat.le_refl _, by decide, rfl, by with_unfolding_all decide⟩
theorem shw_dig {n : Nat} (h : n ≤ 9) : Shw (.int n) 0 1 := by
  refine ⟨fun m _ => by cases m <;> rfl, ?_, rfl, Nat.le_refl _, ?_, by show ((n : Int) == (n : Int)) = true; simp, ?_⟩
  · have : n = 0 ∨ n = 1 ∨ n = 2 ∨ n = 3 ∨ n = 4 ∨ n = 5 ∨ n = 6 ∨ n = 7 ∨ n = 8 ∨ n = 9 := by omega
    rcases this with h | h | h | h | h | h | h | h | h | h <;> subst h <;> with_unfolding_all rfl
  · have : n = 0 ∨ n = 1 ∨ n = 2 ∨ n = 3 ∨ n = 4 ∨ n = 5 ∨ n = 6 ∨ n = 7 ∨ n = 8 ∨ n = 9 := by omega
    rcases this with h | h | h | h | h | h | h | h | h | h <;> subst h <;> with_unfolding_all decide
  · have : n = 0 ∨ n = 1 ∨ n = 2 ∨ n = 3 ∨ n = 4 ∨ n = 5 ∨ n = 6 ∨ n = 7 ∨ n = 8 ∨ n = 9 := by omega
    rcases this with h | h | h | h | h | h | h | h | h | h <;> subst h <;> with_unfolding_all decide
theorem shw_turn : Shw (.str (Str.ofString "turn")) 0 6 := ⟨fun m _ => by cases m <;> with_unfolding_all rfl, rfl, rfl, Nat.le_refl _, by with_unfolding_all decide, by show (Str.ofString "turn" == Str.ofString "turn") = true; simp, by with_unfolding_all decide⟩
theorem Shw.imp {d : D} {k z k' z' : Nat} (s : Shw d k z) (hk : k ≤ k') (hz : z ≤ z') : Shw d k' z' := ⟨fun m hm => s.ok m (by omega), s.sh, s.nd, Nat.le_trans s.dp hk, Nat.le_trans s.ln hz, s.eq, s.so⟩
theorem Shw.deq {d : D} {k z : Nat} (s : Shw d k z) : deq d d = true := s.eq
def jz : List Nat → Nat
  | [] => 0
  | x :: xs => x + 2 + jz xs
theorem join_le : ∀ (ts : List Str), ((Str.ofString ", ").join ts).length ≤ jz (ts.map (·.length))
  | [] => by with_unfolding_all decide
  | [t] => by show t.length ≤ t.length + 2 + 0; omega
  | t :: u :: ts => by
    have ih := join_le (u :: ts)
    show ((t ++ Str.ofString ", ") ++ (Str.ofString ", ").join (u :: ts)).length ≤ t.length + 2 + jz ((u :: ts).map (·.length))
    rw [Str.length_append, Str.length_append, show (Str.ofString ", ").length = 2 by with_unfolding_all rfl]
    omega
theorem jz_le {z : Nat} : ∀ {xs : List Nat}, (∀ x ∈ xs, x ≤ z) → jz xs ≤ xs.length * (z + 2)
  | [], _ => by simp [jz]
  | x :: xs, h => by
    have h1 := h x (by simp)
    have h2 := jz_le (xs := xs) fun y hy => h y (by simp [hy])
    rw [List.length_cons, Nat.succ_mul]
    show x + 2 + jz xs ≤ _
    omega
theorem shownAll_map : ∀ xs : List D, PyData.shownAll (pys xs) = xs.map fun d => d.py.shown
  | [] => rfl
  | x :: xs => by
    show x.py.shown :: PyData.shownAll (pys xs) = _
    rw [shownAll_map xs]; rfl
theorem shw_tup {xs : List D} {k z : Nat} (h : ∀ x ∈ xs, Shw x k z) : Shw (.tuple xs) (k + 1) (xs.length * (z + 2) + 3) := by
  have all : ∀ (ys : List D), (∀ x ∈ ys, Shw x k z) → (∀ m, k ≤ m → oks m ys = true) ∧ PyData.showableAll (pys ys) = true ∧ PyData.hasDictAll (pys ys) = false ∧ PyData.depthAll (pys ys) ≤ k ∧ PyData.eqvAll (pys ys) (pys ys) = true := by
    intro ys
    induction ys with
    | nil => exact fun _ => ⟨fun m _ => by cases m <;> rfl, rfl, rfl, Nat.zero_le _, rfl⟩
    | cons y ys ih =>
      intro hy
      obtain ⟨i1, i2, i3, i4, i5⟩ := ih fun x hx => hy x (by simp [hx])
      have s := hy y (by simp)
      refine ⟨fun m hm => ?_, ?_, ?_, ?_, ?_⟩
      · show (D.ok m y && oks m ys) = true
        rw [s.ok m hm, i1 m hm]; rfl
      · show (y.py.showable && PyData.showableAll (pys ys)) = true
        rw [s.sh, i2]; rfl
      · show (y.py.hasDict || PyData.hasDictAll (pys ys)) = false
        rw [s.nd, i3]; rfl
      · show max y.py.depth (PyData.depthAll (pys ys)) ≤ k
        exact Nat.max_le.mpr ⟨s.dp, i4⟩
      · show (y.py.eqv y.py && PyData.eqvAll (pys ys) (pys ys)) = true
        rw [s.eq, i5]; rfl
  obtain ⟨a1, a2, a3, a4, a5⟩ := all xs h
  refine ⟨fun m hm => ?_, a2, a3, Nat.succ_le_succ a4, ?_, a5, ?_⟩
  · obtain ⟨j, rfl⟩ : ∃ j, m = j + 1 := ⟨m - 1, by omega⟩
    exact a1 j (by omega)
  · show (tupleText (PyData.shownAll (pys xs))).length ≤ _
    rw [shownAll_map]
    unfold tupleText
    rw [Str.length_append, Str.length_append, show (Str.ofString "(").length = 1 by with_unfolding_all rfl]
    have h1 := join_le (xs.map fun d => d.py.shown)
    have h2 : jz ((xs.map fun d => d.py.shown).map (·.length)) ≤ xs.length * (z + 2) := by
      have := jz_le (z := z) (xs := (xs.map fun d => d.py.shown).map (·.length)) fun x hx => by
        rw [List.map_map] at hx
        obtain ⟨y, hy, rfl⟩ := List.mem_map.mp hx
        exact (h y hy).ln
      simpa using this
    have h3 : (Str.ofString (if ((xs.map fun d => d.py.shown).length == 1) = true then ",)" else ")")).length ≤ 2 := by
      by_cases q : ((xs.map fun d => d.py.shown).length == 1) = true
      · rw [if_pos q]; with_unfolding_all decide
      · rw [if_neg q]; with_unfolding_all decide
    omega
  · show PyData.strOk (tupleText (PyData.shownAll (pys xs))) = true
    rw [shownAll_map]
    unfold tupleText
    refine so_app (so_app (by with_unfolding_all decide) (so_join _ fun t ht => ?_)) ?_
    · obtain ⟨y, hy, rfl⟩ := List.mem_map.mp ht
      exact (h y hy).so
    · by_cases q : ((xs.map fun d => d.py.shown).length == 1) = true
      · rw [if_pos q]; with_unfolding_all decide
      · rw [if_neg q]; with_unfolding_all decide
theorem Shw.okS {d : D} {k z : Nat} (s : Shw d k z) : D.ok 60 (.str d.py.shown) = true := s.so
theorem deq_str (x : Str) : deq (.str x) (.str x) = true := by
  unfold deq D.py PyData.eqv
  simp
end DL
set_option Elab.async false
set_option linter.all false
set_option maxRecDepth 100000
set_option maxHeartbeats 1000000
/-! DL33: the law's call, from its contract. -/
namespace DL
open PySem L2 Evl PySem.Spec PyProof.Rows
theorem reps_ints {K : PySem.W.Frag} {F : Hp} : ∀ ns : List Int, Reps K F (ns.map V.int) (ns.map D.int)
  | [] => .nil
  | i :: ns => .cons (.int i) (reps_ints ns)
theorem spD_law {K : PySem.W.Frag} {dc : DC} {H : Hp} {a : Addr} {ns : List Int} (hS : SqL K H a (ns.map V.int))
    (h : dc [.fz (.rol (ns.map .int))] (fun _ _ => False) fun r _ => r = .d (.bool true)) (mo : MonoC dc) : spD K 1 dc [.ref a] H (fun v _ => v = .bl true) fun _ _ _ => False := by
  refine ⟨rfl, ⟨fun _ => none, H, H, [some (.ref a)]⟩, H, [.fz (.rol (ns.map .int))], ⟨ExL.of (Ex.refl _), fun _ _ z => (nomatch z), fun _ z => .inl z, Ex.refl _, Thr.refl _, rfl, fun i => ?_, fun i j b h1 => ?_⟩, ?_⟩
  · match i with
    | 0 => exact ⟨_, rfl, .ro hS (reps_ints ns)⟩
    | _ + 1 => trivial
  · match i, h1 with
    | 0, h1 => cases h1
    | _ + 1, h1 => cases h1
  · refine mo.go (fun x o q => q.elim) (fun r o q v F' H' e S rv => ?_) h
    subst q
    cases rv
    rfl
end DL
set_option Elab.async false
set_option linter.all false
set_option maxRecDepth 100000
set_option maxHeartbeats 1000000
/-! DL34: dicts with nested keys: read, written. -/
namespace DL
open PySem L2 Evl PyProof.Rows
mutual
def D.nk : D → Option NestedKey
  | .int i => some (.num i)
  | .tuple xs => (nksOf xs).map .tup
  | .none => Option.none
  | .bool _ => Option.none
  | .str _ => Option.none
  | .list _ => Option.none
  | .rol _ => Option.none
  | .dict _ => Option.none
  | .dictT _ => Option.none
  | .dictN _ => Option.none
  | .ob _ _ _ => Option.none
def nksOf : List D → Option (List NestedKey)
  | [] => some []
  | x :: xs => x.nk.bind fun k => (nksOf xs).map (k :: ·)
end
/-- a tuple as a key -/
def D.nkT : D → Option NestedKey
  | .tuple xs => (nksOf xs).bind fun ks => if (NestedKey.tup ks).depth ≤ 8 then some (.tup ks) else Option.none
  | _ => Option.none
mutual
theorem nk_data : ∀ {d : D} {k : NestedKey}, d.nk = some k → nkD k = d ∧ nkNum k = true
  | .int i, k, h => by simp [D.nk] at h; subst h; simp [nkD, nkNum]
  | .tuple xs, k, h => by
    rw [D.nk, Option.map_eq_some_iff] at h
    obtain ⟨ks, h1, rfl⟩ := h
    obtain ⟨h2, h3⟩ := nks_data h1
    rw [nkD, h2, nkNum]
    exact ⟨rfl, h3⟩
  | .none, _, h => by simp [D.nk] at h
  | .bool _, _, h => by simp [D.nk] at h
  | .str _, _, h => by simp [D.nk] at h
  | .list _, _, h => by simp [D.nk] at h
  | .rol _, _, h => by simp [D.nk] at h
  | .dict _, _, h => by simp [D.nk] at h
  | .dictT _, _, h => by simp [D.nk] at h
  | .dictN _, _, h => by simp [D.nk] at h
  | .ob _ _ _, _, h => by simp [D.nk] at h
theorem nks_data : ∀ {ds : List D} {ks : List NestedKey}, nksOf ds = some ks → nkDs ks = ds ∧ nkNums ks = true
  | [], ks, h => by simp [nksOf] at h; subst h; simp [nkDs, nkNums]
  | d :: ds, ks, h => by
    rw [nksOf, Option.bind_eq_some_iff] at h
    obtain ⟨k, h1, h2⟩ := h
    rw [Option.map_eq_some_iff] at h2
    obtain ⟨ks', h3, rfl⟩ := h2
    obtain ⟨a1, a2⟩ := nk_data h1
    obtain ⟨b1, b2⟩ := nks_data h3
    rw [nkDs, a1, b1, nkNums, a2, b2]
    exact ⟨rfl, rfl⟩
end
theorem nkT_data {d : D} {k : NestedKey} (h : d.nkT = some k) : nkD k = d ∧ nkNum k = true ∧ k.depth ≤ 8 := by
  cases d with
  | tuple xs =>
    have h : (nksOf xs).bind (fun ks => if (NestedKey.tup ks).depth ≤ 8 then some (NestedKey.tup ks) else Option.none) = some k := h
    rw [Option.bind_eq_some_iff] at h
    obtain ⟨ks, h1, h2⟩ := h
    by_cases q : (NestedKey.tup ks).depth ≤ 8
    · rw [if_pos q] at h2
      cases h2
      obtain ⟨h3, h4⟩ := nks_data h1
      rw [nkD, h3, nkNum]
      exact ⟨rfl, h4, q⟩
    · rw [if_neg q] at h2; cases h2
  | _ => cases h
section
variable {K : PySem.W.Frag} {F F' H : Hp}
mutual
theorem keyV_rep (e : ExL F H) : ∀ {k : NestedKey} {v : V}, nkNum k = true → Rep K F v (nkD k) → KeyV H k v
  | .num i, v, _, r => by rw [nkD] at r; cases r.int_inv; exact .num i
  | .tup ks, v, h, r => by
    rw [nkD] at r
    obtain ⟨b, vs, rfl, hb, r⟩ := r.tuple_inv2
    exact .tup (e.on hb) (keyVs_rep e (by simpa [nkNum] using h) r)
  | .none, _, h, _ => by simp [nkNum] at h
  | .text _, _, h, _ => by simp [nkNum] at h
theorem keyVs_rep (e : ExL F H) : ∀ {ks : List NestedKey} {vs : List V}, nkNums ks = true → Reps K F vs (nkDs ks) → KeyVs H ks vs
  | [], vs, _, r => by rw [nkDs] at r; cases r; exact .nil
  | k :: ks, vs, h, r => by
    rw [nkDs] at r
    rw [nkNums, Bool.and_eq_true] at h
    cases r with
    | cons r t => exact .cons (keyV_rep e h.1 r) (keyVs_rep e h.2 t)
end
theorem NReps.keys (e : ExL F H) : ∀ {ws : NW} {kvs : List (NestedKey × D)}, NReps K F ws kvs → NKeys H ws
  | _, _, .nil => fun p hp => by simp at hp
  | _, _, .cons h1 h2 r1 r t => fun p hp => by
    rcases List.mem_cons.mp hp with rfl | hp
    · exact ⟨keyV_rep e h2 r1, h1⟩
    · exact NReps.keys e t p hp
theorem NReps.val {k : NestedKey} : ∀ {ws : NW} {kvs : List (NestedKey × D)}, NReps K F ws kvs → (dVal kvs k = none → valN ws k = none) ∧ ∀ d, dVal kvs k = some d → ∃ v, valN ws k = some v ∧ Rep K F v d
  | [], [], .nil => ⟨fun _ => rfl, fun d h => by simp [dVal] at h⟩
  | (k1, b, v) :: ws, (_, d) :: kvs, .cons _ _ _ r t => by
    by_cases q : k1 = k
    · have e1 : valN ((k1, b, v) :: ws) k = some v := by simp [valN, List.find?_cons, q]
      have : dVal ((k1, d) :: kvs) k = some d := by simp [dVal, List.find?_cons, q]
      rw [this, e1]
      refine ⟨fun h => (nomatch h), fun d' h => ?_⟩
      obtain rfl : d = d' := by simpa using h
      exact ⟨v, rfl, r⟩
    · have e1 : valN ((k1, b, v) :: ws) k = valN ws k := by simp [valN, List.find?_cons, q]
      have : dVal ((k1, d) :: kvs) k = dVal kvs k := by simp [dVal, List.find?_cons, q]
      rw [this, e1]
      exact NReps.val t
theorem dVal_any {κ : Type} [DecidableEq κ] (k : κ) : ∀ kvs : List (κ × D), (kvs.any fun kv => decide (kv.1 = k)) = (dVal kvs k).isSome
  | [] => rfl
  | p :: r => by
    rw [List.any_cons, dVal_any k r]
    by_cases e : p.1 = k
    · simp [dVal, List.find?_cons, e]
    · simp [dVal, List.find?_cons, e]
theorem NReps.repl {k : NestedKey} {v : V} {d : D} (rv : Rep K F v d) : ∀ {ws : NW} {kvs : List (NestedKey × D)}, NReps K F ws kvs → NReps K F (ws.map (repN k v)) (kvs.map (fun kv => if kv.1 = k then (kv.1, d) else kv))
  | [], [], .nil => .nil
  | (k1, b, v1) :: ws, (_, d1) :: kvs, .cons h1 h2 r1 r t => by
    rw [List.map_cons, List.map_cons]
    unfold repN
    by_cases q : k1 = k
    · rw [if_pos q, if_pos q]; exact .cons h1 h2 r1 rv (NReps.repl rv t)
    · rw [if_neg q, if_neg q]; exact .cons h1 h2 r1 r (NReps.repl rv t)
theorem NReps.app : ∀ {ws ws' : NW} {kvs kvs' : List (NestedKey × D)}, NReps K F ws kvs → NReps K F ws' kvs' → NReps K F (ws ++ ws') (kvs ++ kvs')
  | [], _, [], _, .nil, h => h
  | _ :: ws, _, _ :: kvs, _, .cons h1 h2 r1 r t, h => .cons h1 h2 r1 r (NReps.app t h)
theorem NReps.put {k : NestedKey} {b : Addr} {v : V} {d : D} {ws : NW} {kvs : List (NestedKey × D)} (h : NReps K F ws kvs) (h1 : k.depth ≤ 8) (h2 : nkNum k = true) (rk : Rep K F (.ref b) (nkD k)) (rv : Rep K F v d) : NReps K F (putN ws k b v) (dPut kvs k d) := by
  have e : (valN ws k).isSome = (dVal kvs k).isSome := by
    obtain ⟨z1, z2⟩ := h.val (k := k)
    cases q : dVal kvs k with
    | none => rw [z1 q]; rfl
    | some d => obtain ⟨v, e, _⟩ := z2 d q; rw [e]; rfl
  unfold putN dPut
  rw [dVal_any, e]
  by_cases q : (dVal kvs k).isSome = true
  · rw [if_pos q, if_pos q]; exact h.repl rv
  · rw [if_neg q, if_neg q]; exact h.app (.cons h1 h2 rk rv .nil)
end
/-! ### library rules -/
def NGet (H : Hp) (a : Addr) (y : V) (r : Option V) : Prop := ∃ ws k b, Rd H a (ND a ws) ∧ NKeys H ws ∧ y = .ref b ∧ KeyV H k (.ref b) ∧ k.depth ≤ 8 ∧ r = valN ws k
def NPut (H : Hp) (a : Addr) (y v : V) (H' : Hp) : Prop := ∃ ws k b, H a = some (ND a ws) ∧ NKeys H ws ∧ y = .ref b ∧ KeyV H k (.ref b) ∧ k.depth ≤ 8 ∧ ws.length < sizeLine ∧ H' = upd H a (ND a (putN ws k b v))
def tNGet (td ty : TE) : TE := fun σ H Q => td σ H fun x H1 => ty σ H1 fun y H2 => ∃ a v, x = .ref a ∧ NGet H2 a y (some v) ∧ Q v H2
def tNIn (ty td : TE) : TE := fun σ H Q => ty σ H fun y H1 => td σ H1 fun x H2 => ∃ a o, x = .ref a ∧ NGet H2 a y o ∧ Q (.bl o.isSome) H2
def tNNotIn (ty td : TE) : TE := fun σ H Q => ty σ H fun y H1 => td σ H1 fun x H2 => ∃ a o, x = .ref a ∧ NGet H2 a y o ∧ Q (.bl (!o.isSome)) H2
def rPutN : V → V → V → Hp → (Hp → Prop) → Prop := fun o i v H Q => ∃ a H', o = .ref a ∧ NPut H a i v H' ∧ Q H'
/-- d is a dict that is known -/
def IsN (H : Hp) (a : Addr) : Prop := ∃ ws, H a = some (ND a ws) ∧ NKeys H ws
def tNSetd (td ty tx : TE) : TE := fun σ H Q => td σ H fun x H1 => ∃ a, x = .ref a ∧ IsN H1 a ∧ ty σ H1 fun y H2 => tx σ H2 fun z H3 => ∃ (ws : NW) (k : NestedKey) (b : Addr), H3 a = some (ND a ws) ∧ NKeys H3 ws ∧ y = .ref b ∧ KeyV H3 k (.ref b) ∧ k.depth ≤ 8 ∧ ws.length < sizeLine ∧
  (∀ v, valN ws k = some v → Q v H3) ∧ (valN ws k = none → Q z (upd H3 a (ND a (putN ws k b z))))
section
variable {X : Cx} {o i e f : Expr} {td ty tx : TE} {pos apos cpos : Pos}
theorem hu9 {A : Around} {k : Nat} (hr : Room k A) : A.units + 9 < cLine := Nat.lt_of_le_of_lt (Nat.add_le_add_left (by decide : 9 ≤ 64) _) hr.units
theorem pe_nget (hu : X.A.units + 9 < cLine) (ho : PE X o td) (hi : PE X i ty) (hs : NoSl i) : PE X (.Subscript o i pos) (tNGet td ty) := by
  refine ⟨fun pins s σ H Q I h => ?_⟩
  refine subD_of PySem.F.slot_dict_getitem.lookup hs (thn (ho.run pins s σ H _ I h) fun u s1 ⟨x, H1, I1, rx, q1⟩ => thn (hi.run pins s1 σ H1 _ I1 q1) fun iv s2 ⟨y, H2, I2, ry, a, v, ex, g, q2⟩ => ?_)
  subst ex
  obtain rfl : u = Value.ref a := rx
  obtain ⟨ws, k, b, hw, hk, rfl, kk, kd, l⟩ := g
  obtain rfl : iv = Value.ref b := ry
  exact ⟨nd_typeIs I2 hw hk, nd_getItem hu I2 hw hk kk kd l.symm fun w' s3 I3 rw' => ⟨v, H2, I3, rw', q2⟩⟩
theorem pc_nin (hu : X.A.units + 9 < cLine) (hi : PE X i ty) (ho : PE X o td) : PC X .In i o (tNIn ty td) := by
  refine ⟨fun pins s σ H Q I h => ?_⟩
  refine thn (hi.run pins s σ H _ I h) fun iv s1 ⟨y, H1, I1, ry, q1⟩ => thn (ho.run pins s1 σ H1 _ I1 q1) fun u s2 ⟨x, H2, I2, rx, a, ov, ex, g, q2⟩ => ?_
  subst ex
  obtain rfl : u = Value.ref a := rx
  obtain ⟨ws, k, b, hw, hk, rfl, kk, kd, l⟩ := g
  obtain rfl : iv = Value.ref b := ry
  subst l
  exact nd_in hu I2 hw hk kk kd fun s3 I3 => ⟨.bl (valN ws k).isSome, H2, I3, rfl, q2⟩
theorem pc_nnotin (hu : X.A.units + 9 < cLine) (hi : PE X i ty) (ho : PE X o td) : PC X .NotIn i o (tNNotIn ty td) := by
  refine ⟨fun pins s σ H Q I h => ?_⟩
  refine thn (hi.run pins s σ H _ I h) fun iv s1 ⟨y, H1, I1, ry, q1⟩ => thn (ho.run pins s1 σ H1 _ I1 q1) fun u s2 ⟨x, H2, I2, rx, a, ov, ex, g, q2⟩ => ?_
  subst ex
  obtain rfl : u = Value.ref a := rx
  obtain ⟨ws, k, b, hw, hk, rfl, kk, kd, l⟩ := g
  obtain rfl : iv = Value.ref b := ry
  subst l
  exact nd_notIn hu I2 hw hk kk kd fun s3 I3 => ⟨.bl (!(valN ws k).isSome), H2, I3, rfl, q2⟩
theorem set_putN (hu : X.A.units + 9 < cLine) : PSet X rPutN := by
  intro pins s σ H o i v ov iv u Q I ro ri rv h
  obtain ⟨a, H', rfl, ⟨ws, k, b, hw, hk, rfl, kk, kd, hl, rfl⟩, q⟩ := h
  obtain rfl : ov = Value.ref a := ro
  obtain rfl : iv = Value.ref b := ri
  exact nd_setItem hu I hw hk kk kd hl rv fun s4 I4 => ⟨_, I4, q⟩
theorem pe_nsetd (hu : X.A.units + 9 < cLine) (ho : PE X o td) (he : PE X e ty) (hf : PE X f tx) (m : M2 X o "setdefault" apos e f cpos) : PE X (.Call (.Attribute o "setdefault" apos) [e, f] [] cpos) (tNSetd td ty tx) := by
  refine ⟨fun pins s σ H Q I h => ?_⟩
  refine wpAny_Call_method m.base m.few m.line PySem.F.plainAttrs_dict PySem.F.slot_dict_setdefault PySem.F.type_dict_setdefault (thn (ho.run pins s σ H _ I h) fun u s1 ⟨x, H1, I1, rx, a, ex, ⟨ws0, hw0, hk0⟩, q1⟩ => ?_)
  subst ex
  obtain rfl : u = Value.ref a := rx
  obtain ⟨_, _, xs, _, dd⟩ := nd_rd I1.hok (.inl hw0) hk0
  refine ⟨dd.typeIs, ?_, ?_⟩
  · intro b q
    cases q
    obtain ⟨ob, _, _, h1, h2, _⟩ := dd
    exact ⟨ob, h1, h2.2.1⟩
  rw [m.trees]
  refine Calls.callWith_builtin rfl (Calls.evalArgs_plain (Calls.spliced_cons (thn (he.run pins s1 σ H1 _ I1 q1) fun iv s2 ⟨y, H2, I2, ry, q2⟩ =>
    Calls.spliced_cons (thn (hf.run pins s2 σ H2 _ I2 q2) fun fv s3 ⟨z, H3, I3, rz, ws, k, b, hw, hk, ey, kk, kd, hl, q3, q4⟩ => Calls.spliced_nil ?_))))
  subst ey
  obtain rfl : iv = Value.ref b := ry
  exact nd_setd hu I3 hw hk kk kd hl rz (fun v hv w' s4 I4 rw' => ⟨v, _, I4, rw', q3 v hv⟩) fun hn s4 I4 => ⟨z, _, I4, rz, q4 hn⟩
end
end DL
set_option Elab.async false
set_option linter.all false
set_option maxRecDepth 100000
set_option maxHeartbeats 1000000
/-! DL35: readings over dicts with nested keys. -/
namespace DL
open PySem L2 Evl PyProof.Rows
/-- a dict with nested keys, its value at k -/
def ctN (c : Ct) (k : D) (Q : List (NestedKey × D) → NestedKey → Prop) : Prop := match c with
  | .dctN kvs => ofS k.nkT (Q kvs)
  | _ => False
theorem ctN.eq {c : Ct} {k : D} {Q : List (NestedKey × D) → NestedKey → Prop} (h : ctN c k Q) : ∃ kvs kk, c = .dctN kvs ∧ k.nkT = some kk ∧ Q kvs kk := by
  cases c with
  | dctN kvs => obtain ⟨kk, h1, h2⟩ := ofS.eq h; exact ⟨kvs, kk, rfl, h1, h2⟩
  | _ => exact h.elim
theorem ctN.mono {c : Ct} {k : D} {Q Q' : List (NestedKey × D) → NestedKey → Prop} (hq : ∀ a b, Q a b → Q' a b) (h : ctN c k Q) : ctN c k Q' := by
  cases c with
  | dctN kvs => exact ofS.mono (fun _ h => hq _ _ h) h
  | _ => exact h
def dN (c k : D) (Q : List (NestedKey × D) → NestedKey → Prop) : Prop := match c with
  | .dictN kvs => ofS k.nkT (Q kvs)
  | _ => False
theorem dN.eq {c k : D} {Q : List (NestedKey × D) → NestedKey → Prop} (h : dN c k Q) : ∃ kvs kk, c = .dictN kvs ∧ k.nkT = some kk ∧ Q kvs kk := by
  cases c with
  | dictN kvs => obtain ⟨kk, h1, h2⟩ := ofS.eq h; exact ⟨kvs, kk, rfl, h1, h2⟩
  | _ => exact h.elim
theorem dN.mono {c k : D} {Q Q' : List (NestedKey × D) → NestedKey → Prop} (hq : ∀ a b, Q a b → Q' a b) (h : dN c k Q) : dN c k Q' := by
  cases c with
  | dictN kvs => exact ofS.mono (fun _ h => hq _ _ h) h
  | _ => exact h
theorem key_at {K : PySem.W.Frag} {F H : Hp} {v : V} {d : D} {k : NestedKey} (e : ExL F H) (r : Rep K F v d) (h : d.nkT = some k) : ∃ b, v = .ref b ∧ KeyV H k (.ref b) ∧ k.depth ≤ 8 ∧ nkNum k = true ∧ Rep K F (.ref b) (nkD k) := by
  obtain ⟨h1, h2, h3⟩ := nkT_data h
  cases d with
  | tuple xs =>
    have r2 := r
    obtain ⟨b, vs, rfl, _, _⟩ := r.tuple_inv2
    rw [← h1] at r2
    exact ⟨b, rfl, keyV_rep e h2 r2, h3, h2, r2⟩
  | _ => cases h
def eGetSN (i : Nat) (dk : DE) : DE := fun ρ X K => isOw (gt ρ i) = true ∧ dk ρ X fun k ρ1 => owC (gt ρ1 i) fun _ c => ctN c k fun kvs kk => ∃ d, dVal kvs kk = some d ∧ K d ρ1
def eGetN (dd dk : DE) : DE := fun ρ X K => dd ρ X fun c ρ1 => dk ρ1 X fun k ρ2 => dN c k fun kvs kk => ∃ d, dVal kvs kk = some d ∧ K d ρ2
def tInSN (neg : Bool) (i : Nat) (dk : DE) : DT := fun ρ X K => dk ρ X fun k ρ1 => owC (gt ρ1 i) fun _ c => ctN c k fun kvs kk => K (if neg then !(dVal kvs kk).isSome else (dVal kvs kk).isSome) ρ1
def tInN (neg : Bool) (dk dd : DE) : DT := fun ρ X K => dk ρ X fun k ρ1 => dd ρ1 X fun c ρ2 => dN c k fun kvs kk => K (if neg then !(dVal kvs kk).isSome else (dVal kvs kk).isSome) ρ2
def isOwN : Sl → Bool
  | .ow _ (.dctN _) => true
  | _ => false
def eSetdN (i : Nat) (dk dv : DE) : DE := fun ρ X K => isOwN (gt ρ i) = true ∧ dk ρ X fun k ρ1 => dv ρ1 X fun y ρ2 => owC (gt ρ2 i) fun b c => ctN c k fun kvs kk => kvs.length ≤ 1000000 ∧ match dVal kvs kk with
  | some d => K d ρ2
  | none => K y (ρ2.set i (.ow b (.dctN (dPut kvs kk y))))
def dgSubN (i : Nat) (dk : DE) : DG := fun y ρ k => isOw (gt ρ i) = true ∧ dk ρ X0 fun j ρ2 => owC (gt ρ2 i) fun b c => ctN c j fun kvs kk => kvs.length ≤ 1000000 ∧ k (ρ2.set i (.ow b (.dctN (dPut kvs kk y))))
section
variable {X : Cx} {W : WX} {a b c e f o : Expr} {da db de dk dd dv : DE} {dt : DT} {dn : NE} {pos p : Pos}
theorem mono_eGetSN {i : Nat} (m : MonoE dk) : MonoE (eGetSN i dk) := ⟨fun hx hk h => ⟨h.1, m.go hx (fun k ρ h => owC.mono (fun b c h => ctN.mono (fun _ _ ⟨d, h1, h2⟩ => ⟨d, h1, hk _ _ h2⟩) h) h) h.2⟩⟩
theorem mono_eGetN (m1 : MonoE dd) (m : MonoE dk) : MonoE (eGetN dd dk) := ⟨fun hx hk h => m1.go hx (fun c ρ h => m.go hx (fun k ρ h => dN.mono (fun _ _ ⟨d, h1, h2⟩ => ⟨d, h1, hk _ _ h2⟩) h) h) h⟩
theorem mono_tInSN {n : Bool} {i : Nat} (m : MonoE dk) : MonoT (tInSN n i dk) := ⟨fun hx hk h => m.go hx (fun k ρ h => owC.mono (fun b c h => ctN.mono (fun _ _ h => hk _ _ h) h) h) h⟩
theorem mono_tInN {n : Bool} (m1 : MonoE dk) (m : MonoE dd) : MonoT (tInN n dk dd) := ⟨fun hx hk h => m1.go hx (fun c ρ h => m.go hx (fun k ρ h => dN.mono (fun _ _ h => hk _ _ h) h) h) h⟩
theorem mono_eSetdN {i : Nat} (m1 : MonoE dk) (m2 : MonoE dv) : MonoE (eSetdN i dk dv) := ⟨fun hx hk h => ⟨h.1, m1.go hx (fun k ρ h => m2.go hx (fun y ρ h => owC.mono (fun b c h => ctN.mono (fun kvs kk h => ⟨h.1, by
  have h2 := h.2
  cases q : dVal kvs kk with
  | some d => rw [q] at h2; exact hk _ _ h2
  | none => rw [q] at h2; exact hk _ _ h2⟩) h) h) h) h.2⟩⟩
theorem nget_of {K : PySem.W.Frag} {F H : Hp} {q : Addr} {ws : NW} {kvs : List (NestedKey × D)} {y : V} {k : D} {kk : NestedKey} (e : ExL F H) (ho : Rd H q (ND q ws)) (hc : NReps K F ws kvs) (ry : Rep K F y k) (h : k.nkT = some kk) : ∃ ov, NGet H q y ov ∧ ov.isSome = (dVal kvs kk).isSome ∧ ∀ d, dVal kvs kk = some d → ∃ v, ov = some v ∧ Rep K F v d := by
  obtain ⟨b, rfl, kv, kd, _, _⟩ := key_at e ry h
  obtain ⟨h1, h2⟩ := hc.val (k := kk)
  refine ⟨valN ws kk, ⟨ws, kk, b, ho, hc.keys e, rfl, kv, kd, rfl⟩, ?_, h2⟩
  cases q : dVal kvs kk with
  | none => rw [h1 q]; rfl
  | some d => obtain ⟨v, e, _⟩ := h2 d q; rw [e]; rfl
theorem pd_getSN {k : Nat} (i : Nat) {x : Str} (hr : Room k X.A) (hb : PD X W b dk) (hs : NoSl b) (hN : X.N[i]? = some x := by rfl) (hv : Vis X.env.scope x := by first | exact Or.inl rfl | exact Or.inr (Or.inl rfl) | exact Or.inr (Or.inr rfl)) (hd : (x == ("__debug__" : Str)) = false := by decide)
    (hcd : (x == ("__classdict__" : Str)) = false := by decide) : PD X W (.Subscript (.Name x p) b pos) (eGetSN i dk) := by
  refine ⟨mono_eGetSN hb.mono, PE.imp (pe_nget (hu9 hr) (pe_var (i := i) hN hv hd hcd) hb.run hs) fun σ H Q ⟨B, F, ρ, S, h⟩ => ?_⟩
  obtain ⟨q0, e0⟩ := S.isOw_ref h.1
  refine ⟨_, e0, liftE.of hb.mono (Ex.refl _) S h.2 fun k ρ1 h v F1 H1 e1 S1 r1 => ?_⟩
  obtain ⟨b, c, es, h⟩ := h.eq
  obtain ⟨kvs, kk, rfl, hk, d, h1, h⟩ := h.eq
  obtain ⟨a, ea, ⟨nf, ng, o, ho, ws, rfl, hc⟩, _⟩ := S1.ow es
  rw [e0] at ea
  have : q0 = a := by simpa using ea
  subst this
  obtain ⟨ov, g, _, r⟩ := nget_of S1.ex (.inl ho) hc r1 hk
  obtain ⟨u, rfl, ru⟩ := r d h1
  exact ⟨q0, u, rfl, g, h u F1 H1 e1 S1 ru⟩
theorem pd_getN {k : Nat} (hr : Room k X.A) (ha : PD X W a dd) (hb : PD X W b dk) (hs : NoSl b) : PD X W (.Subscript a b pos) (eGetN dd dk) := by
  refine ⟨mono_eGetN ha.mono hb.mono, PE.imp (pe_nget (hu9 hr) ha.run hb.run hs) fun σ H Q ⟨B, F, ρ, S, h⟩ => ?_⟩
  refine liftE.of ha.mono (Ex.refl _) S h fun c ρ0 h v0 F0 H0 e0 S0 r0 => liftE.of hb.mono e0 S0 h fun k ρ1 h v F1 H1 e1 S1 r1 => ?_
  obtain ⟨kvs, kk, rfl, hk, d, h1, h⟩ := h.eq
  obtain ⟨q, ws, rfl, hq, hc⟩ := (r0.mono e1).dictN_inv
  obtain ⟨ov, g, _, r⟩ := nget_of S1.ex (S1.ex.rd hq) hc r1 hk
  obtain ⟨u, rfl, ru⟩ := r d h1
  exact ⟨q, u, rfl, g, h u F1 H1 (e0.trans e1) S1 ru⟩
theorem inSN_go {n : Bool} {i : Nat} {σ : L2.St} {H : Hp} {Q : Bool → Hp → Prop} (hb : PD X W b dk) (h : liftT X.K W (tInSN n i dk) σ H Q) : liftE X.K W dk σ H fun y H1 => tVar i σ H1 fun x H2 => ∃ a ov, x = .ref a ∧ NGet H2 a y ov ∧ Q (if n then !ov.isSome else ov.isSome) H2 := by
  obtain ⟨B, F, ρ, S, h⟩ := h
  refine liftE.of hb.mono (Ex.refl _) S h fun k ρ1 h v F1 H1 e1 S1 r1 => ?_
  obtain ⟨b, c, es, h⟩ := h.eq
  obtain ⟨kvs, kk, rfl, hk, h⟩ := h.eq
  obtain ⟨a, ea, ⟨nf, ng, o, ho, ws, rfl, hc⟩, _⟩ := S1.ow es
  obtain ⟨ov, g, hi, r⟩ := nget_of S1.ex (.inl ho) hc r1 hk
  exact ⟨_, ea, a, ov, rfl, g, by rw [hi]; exact h F1 H1 e1 S1⟩
theorem inN_go {n : Bool} {σ : L2.St} {H : Hp} {Q : Bool → Hp → Prop} (ha : PD X W a dd) (hb : PD X W b dk) (h : liftT X.K W (tInN n dk dd) σ H Q) : liftE X.K W dk σ H fun y H1 => liftE X.K W dd σ H1 fun x H2 => ∃ a ov, x = .ref a ∧ NGet H2 a y ov ∧ Q (if n then !ov.isSome else ov.isSome) H2 := by
  obtain ⟨B, F, ρ, S, h⟩ := h
  refine liftE.of hb.mono (Ex.refl _) S h fun k ρ1 h v F1 H1 e1 S1 r1 => liftE.of ha.mono e1 S1 h fun c ρ2 h v2 F2 H2 e2 S2 r2 => ?_
  obtain ⟨kvs, kk, rfl, hk, h⟩ := h.eq
  obtain ⟨q, ws, rfl, hq, hc⟩ := r2.dictN_inv
  obtain ⟨ov, g, hi, r⟩ := nget_of S2.ex (S2.ex.rd hq) hc (r1.mono e2) hk
  exact ⟨q, ov, rfl, g, by rw [hi]; exact h F2 H2 (e1.trans e2) S2⟩
theorem pdt_inSN {k : Nat} (i : Nat) {x : Str} (hr : Room k X.A) (hb : PD X W b dk) (hN : X.N[i]? = some x := by rfl) (hv : Vis X.env.scope x := by first | exact Or.inl rfl | exact Or.inr (Or.inl rfl) | exact Or.inr (Or.inr rfl)) (hd : (x == ("__debug__" : Str)) = false := by decide)
    (hcd : (x == ("__classdict__" : Str)) = false := by decide) (h1 : behindInMarks .In (.Name x p) = false := by first | exact nobehind _ (by decide) (by decide) | rfl) : PDT X W (.Compare b [.In] [.Name x p] pos) (tInSN false i dk) :=
  ⟨mono_tInSN hb.mono, PT.imp (pt_cmp (pc_nin (hu9 hr) hb.run (pe_var (i := i) hN hv hd hcd)) h1) fun σ H Q h => by
    obtain ⟨B, F, ρ, S, q⟩ := inSN_go (n := false) hb h
    refine ⟨B, F, ρ, S, hb.mono.go (fun _ _ h => h) (fun k ρ' h v F' H' e' S' r' => ?_) q⟩
    obtain ⟨x, hx, a, ov, e2, g, q⟩ := h v F' H' e' S' r'
    exact ⟨x, hx, a, ov, e2, g, ⟨_, rfl, q⟩⟩⟩
theorem pdt_notinSN {k : Nat} (i : Nat) {x : Str} (hr : Room k X.A) (hb : PD X W b dk) (hN : X.N[i]? = some x := by rfl) (hv : Vis X.env.scope x := by first | exact Or.inl rfl | exact Or.inr (Or.inl rfl) | exact Or.inr (Or.inr rfl)) (hd : (x == ("__debug__" : Str)) = false := by decide)
    (hcd : (x == ("__classdict__" : Str)) = false := by decide) (h1 : behindInMarks .NotIn (.Name x p) = false := by first | exact nobehind _ (by decide) (by decide) | rfl) : PDT X W (.Compare b [.NotIn] [.Name x p] pos) (tInSN true i dk) :=
  ⟨mono_tInSN hb.mono, PT.imp (pt_cmp (pc_nnotin (hu9 hr) hb.run (pe_var (i := i) hN hv hd hcd)) h1) fun σ H Q h => by
    obtain ⟨B, F, ρ, S, q⟩ := inSN_go (n := true) hb h
    refine ⟨B, F, ρ, S, hb.mono.go (fun _ _ h => h) (fun k ρ' h v F' H' e' S' r' => ?_) q⟩
    obtain ⟨x, hx, a, ov, e2, g, q⟩ := h v F' H' e' S' r'
    exact ⟨x, hx, a, ov, e2, g, ⟨_, rfl, q⟩⟩⟩
theorem pdt_inN {k : Nat} (hr : Room k X.A) (hb : PD X W b dk) (ha : PD X W a dd) (h1 : behindInMarks .In a = false := by first | exact nobehind _ (by decide) (by decide) | rfl) : PDT X W (.Compare b [.In] [a] pos) (tInN false dk dd) :=
  ⟨mono_tInN hb.mono ha.mono, PT.imp (pt_cmp (pc_nin (hu9 hr) hb.run ha.run) h1) fun σ H Q h => by
    obtain ⟨B, F, ρ, S, q⟩ := inN_go (n := false) ha hb h
    refine ⟨B, F, ρ, S, hb.mono.go (fun _ _ h => h) (fun k ρ' h v F' H' e' S' r' => ?_) q⟩
    obtain ⟨B2, F2, ρ2, S2, q2⟩ := h v F' H' e' S' r'
    refine ⟨B2, F2, ρ2, S2, ha.mono.go (fun _ _ h => h) (fun k ρ' h v F' H' e' S' r' => ?_) q2⟩
    obtain ⟨a, ov, e2, g, q⟩ := h v F' H' e' S' r'
    exact ⟨a, ov, e2, g, ⟨_, rfl, q⟩⟩⟩
theorem pdt_notinN {k : Nat} (hr : Room k X.A) (hb : PD X W b dk) (ha : PD X W a dd) (h1 : behindInMarks .NotIn a = false := by first | exact nobehind _ (by decide) (by decide) | rfl) : PDT X W (.Compare b [.NotIn] [a] pos) (tInN true dk dd) :=
  ⟨mono_tInN hb.mono ha.mono, PT.imp (pt_cmp (pc_nnotin (hu9 hr) hb.run ha.run) h1) fun σ H Q h => by
    obtain ⟨B, F, ρ, S, q⟩ := inN_go (n := true) ha hb h
    refine ⟨B, F, ρ, S, hb.mono.go (fun _ _ h => h) (fun k ρ' h v F' H' e' S' r' => ?_) q⟩
    obtain ⟨B2, F2, ρ2, S2, q2⟩ := h v F' H' e' S' r'
    refine ⟨B2, F2, ρ2, S2, ha.mono.go (fun _ _ h => h) (fun k ρ' h v F' H' e' S' r' => ?_) q2⟩
    obtain ⟨a, ov, e2, g, q⟩ := h v F' H' e' S' r'
    exact ⟨a, ov, e2, g, ⟨_, rfl, q⟩⟩⟩
theorem pd_setdN {k : Nat} (i : Nat) {x : Str} {apos : Pos} (hr : Room k X.A) (h1 : PD X W e dk) (h2 : PD X W f dv) (m : M2 X (.Name x p) "setdefault" apos e f pos) (hN : X.N[i]? = some x := by rfl) (hv : Vis X.env.scope x := by first | exact Or.inl rfl | exact Or.inr (Or.inl rfl) | exact Or.inr (Or.inr rfl)) (hd : (x == ("__debug__" : Str)) = false := by decide)
    (hcd : (x == ("__classdict__" : Str)) = false := by decide) : PD X W (.Call (.Attribute (.Name x p) "setdefault" apos) [e, f] [] pos) (eSetdN i dk dv) := by
  refine ⟨mono_eSetdN h1.mono h2.mono, PE.imp (pe_nsetd (hu9 hr) (pe_var (i := i) hN hv hd hcd) h1.run h2.run m) fun σ H Q ⟨B, F, ρ, S, h⟩ => ?_⟩
  obtain ⟨b0, kv0, es0⟩ : ∃ b kvs, ρ.getD i .un = .ow b (.dctN kvs) := by
    have := h.1
    unfold isOwN at this
    split at this
    · rename_i b kvs hs; exact ⟨b, kvs, hs⟩
    · cases this
  obtain ⟨q0, e0, ⟨_, _, o0, ho0, ws0, rfl, hc0⟩, _⟩ := S.ow es0
  refine ⟨_, e0, q0, rfl, ⟨ws0, ho0, hc0.keys S.ex⟩, ?_⟩
  refine liftE.of h1.mono (Ex.refl _) S h.2 fun k ρ1 h v F1 H1 e1 S1 r1 => liftE.of h2.mono e1 S1 h fun y ρ2 h u F2 H2 e2 S2 r2 => ?_
  obtain ⟨b, c, es, h⟩ := h.eq
  obtain ⟨kvs, kk, rfl, hk, hz, h⟩ := h.eq
  obtain ⟨a, ea, ⟨nf, ng, o, ho, ws, rfl, hc⟩, _⟩ := S2.ow es
  rw [e0] at ea
  have : q0 = a := by simpa using ea
  subst this
  obtain ⟨b2, rfl, kv, kd, kn, rk⟩ := key_at S2.ex (r1.mono e2) hk
  obtain ⟨z1, z2⟩ := hc.val (k := kk)
  refine ⟨ws, kk, b2, ho, hc.keys S2.ex, rfl, kv, kd, by rw [hc.length, sizeLine_eq]; exact Nat.lt_of_le_of_lt hz (by decide), fun v' hv' => ?_, fun hn => ?_⟩
  · cases q : dVal kvs kk with
    | none => rw [z1 q] at hv'; cases hv'
    | some d =>
      rw [q] at h
      obtain ⟨v2, e3, r3⟩ := z2 d q
      rw [hv'] at e3
      cases e3
      exact h _ F2 H2 (e1.trans e2) S2 r3
  · cases q : dVal kvs kk with
    | some d => obtain ⟨v2, e3, r3⟩ := z2 d q; rw [hn] at e3; cases e3
    | none =>
      rw [q] at h
      exact h _ F2 _ (e1.trans e2) (S2.write es e0 ⟨_, rfl, hc.put kd kn rk r2⟩) r2
theorem pdg_subN {k : Nat} (i : Nat) {x : Str} (hr : Room k X.A) (hi : PD X W0 e de) (hN : X.N[i]? = some x := by rfl) (hv : Vis X.env.scope x := by first | exact Or.inl rfl | exact Or.inr (Or.inl rfl) | exact Or.inr (Or.inr rfl)) (hd : (x == ("__debug__" : Str)) = false := by decide)
    (hcd : (x == ("__classdict__" : Str)) = false := by decide) (ha : ∀ v, assign (.Subscript (.Name x p) e pos) X.env v = (do
      let ov ← holding [v] (eval (.Name x p) X.env)
      let iv ← holding [v, ov] (eval e X.env)
      standAt pos
      holding [v, ov, iv] (setItem ov iv v)
      release [v, ov, iv] []) := by intro _; rfl) :
    PDG X (.Subscript (.Name x p) e pos) (gSub (tVar i) (liftE X.K W0 de) rPutN) (dgSubN i de) [] := by
  refine ⟨⟨fun hk h => ⟨h.1, hi.mono.go (fun _ _ h => h) (fun j ρ h => owC.mono (fun b c h => ctN.mono (fun _ _ h => ⟨h.1, hk _ h.2⟩) h) h) h.2⟩⟩, pg_sub (pe_var (i := i) hN hv hd hcd) hi.run (set_putN (hu9 hr)) ha, fun {B F ρ σ H v d k Q} S r h hQ => ?_⟩
  obtain ⟨h0, h⟩ := h
  obtain ⟨q0, e0⟩ := S.isOw_ref h0
  refine ⟨_, e0, liftE.of hi.mono (Ex.refl _) S (hi.mono.go (fun _ _ h => h.elim) (fun _ _ h => h) h) fun j ρ2 h y F1 H1 e1 S1 r1 => ?_⟩
  obtain ⟨b, c, es, h⟩ := h.eq
  obtain ⟨kvs, kk, rfl, hk, hz, h⟩ := h.eq
  obtain ⟨a, ea, ⟨nf, ng, o, ho, ws, rfl, hc⟩, _⟩ := S1.ow es
  rw [e0] at ea
  have : q0 = a := by simpa using ea
  subst this
  obtain ⟨b2, rfl, kv, kd, kn, rk⟩ := key_at S1.ex r1 hk
  exact ⟨q0, _, rfl, ⟨ws, kk, b2, ho, hc.keys S1.ex, rfl, kv, kd, by rw [hc.length, sizeLine_eq]; exact Nat.lt_of_le_of_lt hz (by decide), rfl⟩, hQ _ h F1 σ _ e1 rfl (fun _ _ => rfl) (S1.write es e0 ⟨_, rfl, hc.put kd kn rk (r.mono e1)⟩)⟩
end
/-! ### steps -/
section
variable {ρ ρ1 : Env} {X : XP} {K : D → Env → Prop} {KB : Bool → Env → Prop} {KE : Env → Prop} {dk dv da : DE} {i : Nat} {d e : D} {b : Bool} {kvs : List (NestedKey × D)} {Q : List (NestedKey × D) → NestedKey → Prop} {kk : NestedKey}
theorem w_inSN (h : dk ρ X fun k ρ1 => owC (gt ρ1 i) fun _ c => ctN c k fun kvs kk => KB (dVal kvs kk).isSome ρ1) : tInSN false i dk ρ X KB := h
theorem w_notinSN (h : dk ρ X fun k ρ1 => owC (gt ρ1 i) fun _ c => ctN c k fun kvs kk => KB (!(dVal kvs kk).isSome) ρ1) : tInSN true i dk ρ X KB := h
theorem w_inN (h : dk ρ X fun k ρ1 => da ρ1 X fun c ρ2 => dN c k fun kvs kk => KB (dVal kvs kk).isSome ρ2) : tInN false dk da ρ X KB := h
theorem w_notinN (h : dk ρ X fun k ρ1 => da ρ1 X fun c ρ2 => dN c k fun kvs kk => KB (!(dVal kvs kk).isSome) ρ2) : tInN true dk da ρ X KB := h
theorem w_getSN (g : isOw (gt ρ i) = true) (h : dk ρ X fun k ρ1 => owC (gt ρ1 i) fun _ c => ctN c k fun kvs kk => ∃ d, dVal kvs kk = some d ∧ K d ρ1) : eGetSN i dk ρ X K := ⟨g, h⟩
theorem w_getN (h : da ρ X fun c ρ1 => dk ρ1 X fun k ρ2 => dN c k fun kvs kk => ∃ d, dVal kvs kk = some d ∧ K d ρ2) : eGetN da dk ρ X K := h
theorem w_setdN (g : isOwN (gt ρ i) = true) (h : dk ρ X fun k ρ1 => dv ρ1 X fun y ρ2 => owC (gt ρ2 i) fun b c => ctN c k fun kvs kk => kvs.length ≤ 1000000 ∧ match dVal kvs kk with
  | some d => K d ρ2
  | none => K y (ρ2.set i (.ow b (.dctN (dPut kvs kk y))))) : eSetdN i dk dv ρ X K := ⟨g, h⟩
theorem w_gsubN (g : isOw (gt ρ i) = true) (h : dk ρ X0 fun j ρ2 => owC (gt ρ2 i) fun b c => ctN c j fun kvs kk => kvs.length ≤ 1000000 ∧ KE (ρ2.set i (.ow b (.dctN (dPut kvs kk d))))) : dgSubN i dk d ρ KE := ⟨g, h⟩
theorem w_ctN (g : d.nkT = some kk) (h : Q kvs kk) : ctN (.dctN kvs) d Q := w_ofS g h
theorem w_dN (g : d.nkT = some kk) (h : Q kvs kk) : dN (.dictN kvs) d Q := w_ofS g h
end
end DL
set_option Elab.async false
set_option linter.all false
set_option maxRecDepth 100000
set_option maxHeartbeats 4000000
namespace DL.K18
open PySem L2 Evl DL
def top (i : Nat) : Stmt := PySem.Challenge.pw_pagesagain_k18_whole_rounds_against_all.main.body.getD i (.Pass ⟨0, 0, 0, 0⟩)
def lay_Machine : List Str := ["tables", "deeds", "states"]
abbrev s_is_integer : Stmt := top 11
abbrev s_is_number : Stmt := top 12
abbrev s_is_below : Stmt := top 13
abbrev s_is_within : Stmt := top 14
abbrev s_is_sequence : Stmt := top 15
abbrev s_is_table : Stmt := top 17
abbrev s_check_tables : Stmt := top 18
abbrev s_need_state : Stmt := top 20
abbrev s_reached : Stmt := top 21
abbrev s_is_within_loss : Stmt := top 24
abbrev s_need_loss : Stmt := top 23
abbrev s_need_modulus : Stmt := top 25
abbrev s_longer_doings : Stmt := top 28
abbrev s_turned_states : Stmt := top 29
abbrev s_turning_lengths : Stmt := top 30
abbrev s_first_rows : Stmt := top 31
abbrev s_row_ahead : Stmt := top 32
abbrev s_need_turning : Stmt := top 33
abbrev s_turn_paper : Stmt := top 34
abbrev s_turned_rows : Stmt := top 35
abbrev s_good_moduli : Stmt := top 36
abbrev s__law_box : Stmt := top 38
abbrev s__law_take : Stmt := top 39
abbrev s__law_pick : Stmt := top 40
abbrev s__law_tables : Stmt := top 41
abbrev s__law_led : Stmt := top 42
abbrev s__law_rounds : Stmt := top 43
abbrev s__law_come : Stmt := top 44
abbrev s__law_is_right : Stmt := top 45
abbrev s__law_goes : Stmt := top 46
abbrev s__law_wrong_right : Stmt := top 47
abbrev s_Machine___init__ : Stmt := inClass (top 19) 0
abbrev s_law : Stmt := top 48
def ds_is_integer (C_Machine : Addr) : DS := (dRet (eAnd (eIs (isTy "int") (eVarF 0)) (eNot (eIs (isTy "bool") (eVarF 0)))))
@[irreducible] def dc_is_integer (C_Machine : Addr) : DC := dcOf (ds_is_integer C_Machine) 1
theorem dm_is_integer {C_Machine : Addr} : MonoC (dc_is_integer C_Machine) := by
  unfold dc_is_integer
  exact mono_dcOf
theorem di_is_integer {C_Machine : Addr} {args : List Sl} {XX : Exn → List Sl → Prop} {R : Rv → List Sl → Prop} (h : ds_is_integer C_Machine (fill 1 args) (postF args XX R)) : dc_is_integer C_Machine args XX R := by
  unfold dc_is_integer
  exact dcOf.intro h
def ds_is_number (C_Machine : Addr) : DS := (dRet (eAnd (eCall 1 (dc_is_integer C_Machine) (aCons (eVarF 0) aNil)) (eOp dGe (eVarF 0) (eC (.int 0)))))
@[irreducible] def dc_is_number (C_Machine : Addr) : DC := dcOf (ds_is_number C_Machine) 1
theorem dm_is_number {C_Machine : Addr} : MonoC (dc_is_number C_Machine) := by
  unfold dc_is_number
  exact mono_dcOf
theorem di_is_number {C_Machine : Addr} {args : List Sl} {XX : Exn → List Sl → Prop} {R : Rv → List Sl → Prop} (h : ds_is_number C_Machine (fill 1 args) (postF args XX R)) : dc_is_number C_Machine args XX R := by
  unfold dc_is_number
  exact dcOf.intro h
def ds_is_below (C_Machine : Addr) : DS := (dRet (eAnd (eCall 1 (dc_is_number C_Machine) (aCons (eVarF 0) aNil)) (eOp dLt (eVarF 0) (eVarF 1))))
@[irreducible] def dc_is_below (C_Machine : Addr) : DC := dcOf (ds_is_below C_Machine) 2
theorem dm_is_below {C_Machine : Addr} : MonoC (dc_is_below C_Machine) := by
  unfold dc_is_below
  exact mono_dcOf
theorem di_is_below {C_Machine : Addr} {args : List Sl} {XX : Exn → List Sl → Prop} {R : Rv → List Sl → Prop} (h : ds_is_below C_Machine (fill 2 args) (postF args XX R)) : dc_is_below C_Machine args XX R := by
  unfold dc_is_below
  exact dcOf.intro h
def ds_is_within (C_Machine : Addr) : DS := (dRet (eAnd (eCall 1 (dc_is_integer C_Machine) (aCons (eVarF 0) aNil)) (eChain dLe dLe (eVarF 1) (eVarF 0) (eVarF 2))))
@[irreducible] def dc_is_within (C_Machine : Addr) : DC := dcOf (ds_is_within C_Machine) 3
theorem dm_is_within {C_Machine : Addr} : MonoC (dc_is_within C_Machine) := by
  unfold dc_is_within
  exact mono_dcOf
theorem di_is_within {C_Machine : Addr} {args : List Sl} {XX : Exn → List Sl → Prop} {R : Rv → List Sl → Prop} (h : ds_is_within C_Machine (fill 3 args) (postF args XX R)) : dc_is_within C_Machine args XX R := by
  unfold dc_is_within
  exact dcOf.intro h
def ds_is_sequence (C_Machine : Addr) : DS := (dRet (eIs (isTy2 "list" "tuple") (eVarF 0)))
@[irreducible] def dc_is_sequence (C_Machine : Addr) : DC := dcOf (ds_is_sequence C_Machine) 1
theorem dm_is_sequence {C_Machine : Addr} : MonoC (dc_is_sequence C_Machine) := by
  unfold dc_is_sequence
  exact mono_dcOf
theorem di_is_sequence {C_Machine : Addr} {args : List Sl} {XX : Exn → List Sl → Prop} {R : Rv → List Sl → Prop} (h : ds_is_sequence C_Machine (fill 1 args) (postF args XX R)) : dc_is_sequence C_Machine args XX R := by
  unfold dc_is_sequence
  exact dcOf.intro h
def ds_is_table (C_Machine : Addr) : DS := (dRet (eAnd (eCall 1 (dc_is_sequence C_Machine) (aCons (eVarF 0) aNil)) (eAnd (eOp (dEqD false) (eB fLen (aCons (eVarF 0) aNil)) (eVarF 1)) (eB fAll (aCons (eFz (nLC (iSeq (eVarF 0)) (dgName 2) bYes (eCall 2 (dc_is_below C_Machine) (aCons (eVarF 2) (aCons (eVarF 1) aNil))) [2])) aNil)))))
@[irreducible] def dc_is_table (C_Machine : Addr) : DC := dcOf (ds_is_table C_Machine) 3
theorem dm_is_table {C_Machine : Addr} : MonoC (dc_is_table C_Machine) := by
  unfold dc_is_table
  exact mono_dcOf
theorem di_is_table {C_Machine : Addr} {args : List Sl} {XX : Exn → List Sl → Prop} {R : Rv → List Sl → Prop} (h : ds_is_table C_Machine (fill 3 args) (postF args XX R)) : dc_is_table C_Machine args XX R := by
  unfold dc_is_table
  exact dcOf.intro h
def ds_check_tables (C_Machine : Addr) : DS := (dSeq (dIf (bOr (bNot (bV (eCall 1 (dc_is_sequence C_Machine) (aCons (eVarF 0) aNil)))) (bNot (bV (eChain dLe dLe (eC (.int 1)) (eB fLen (aCons (eVarF 0) aNil)) (eC (.int 4)))))) dNever dNext) (dSeq (dAsg (eIf (bV (eCall 1 (dc_is_sequence C_Machine) (aCons (eOp dIx (eVarF 0) (eC (.int 0))) aNil))) (eB fLen (aCons (eOp dIx (eVarF 0) (eC (.int 0))) aNil)) (eC (.int 0))) (dgName 1)) (dSeq (dFor (iEn (aCons (eVarF 0) aNil)) (dgTup 2 (dgCons (dgName 2) (dgCons (dgName 3) dgNil))) (dIf (bOr (bNot (bV (eChain dLe dLe (eC (.int 1)) (eVarF 1) (eC (.int 8))))) (bNot (bV (eCall 2 (dc_is_table C_Machine) (aCons (eVarF 3) (aCons (eVarF 1) aNil)))))) dNever dNext)) (dRet (eB fTuple (aCons (eFz (nLC (iSeq (eVarF 0)) (dgName 3) bYes (eB fTuple (aCons (eVarF 3) aNil)) [3])) aNil))))))
@[irreducible] def dc_check_tables (C_Machine : Addr) : DC := dcOf (ds_check_tables C_Machine) 4
theorem dm_check_tables {C_Machine : Addr} : MonoC (dc_check_tables C_Machine) := by
  unfold dc_check_tables
  exact mono_dcOf
theorem di_check_tables {C_Machine : Addr} {args : List Sl} {XX : Exn → List Sl → Prop} {R : Rv → List Sl → Prop} (h : ds_check_tables C_Machine (fill 4 args) (postF args XX R)) : dc_check_tables C_Machine args XX R := by
  unfold dc_check_tables
  exact dcOf.intro h
def ds_need_state (C_Machine : Addr) : DS := (dSeq (dIf (bNot (bV (eCall 2 (dc_is_below C_Machine) (aCons (eVarF 1) (aCons (eAttr C_Machine lay_Machine 2 (eVarF 0)) aNil))))) dNever dNext) (dRet (eVarF 1)))
@[irreducible] def dc_need_state (C_Machine : Addr) : DC := dcOf (ds_need_state C_Machine) 2
theorem dm_need_state {C_Machine : Addr} : MonoC (dc_need_state C_Machine) := by
  unfold dc_need_state
  exact mono_dcOf
theorem di_need_state {C_Machine : Addr} {args : List Sl} {XX : Exn → List Sl → Prop} {R : Rv → List Sl → Prop} (h : ds_need_state C_Machine (fill 2 args) (postF args XX R)) : dc_need_state C_Machine args XX R := by
  unfold dc_need_state
  exact dcOf.intro h
def ds_reached (C_Machine : Addr) : DS := (dSeq (dOwn (nD1K (eCall 2 (dc_need_state C_Machine) (aCons (eVarF 0) (aCons (eVarF 1) aNil))) (eC (.bool true))) 2) (dSeq (dOwn (nLst (aCons (eVarF 1) aNil)) 3) (dSeq (dWhile (bV (eOp dGt (eLenS 3) (eC (.int 0)))) (dSeq (dAsg (ePop 3) (dgName 4)) (dFor (iSeq (eAttr C_Machine lay_Machine 0 (eVarF 0))) (dgName 5) (dIf (tInS true 2 (eOp dIx (eVarF 5) (eVarF 4))) (dSeq (dAsg (eC (.bool true)) (dgSub 2 (eOp dIx (eVarF 5) (eVarF 4)))) (dApp 3 (eOp dIx (eVarF 5) (eVarF 4)))) dNext)))) (dRet (eB fTuple (aCons (eB fSortI (aCons (eB fListD (aCons (eVarF 2) aNil)) aNil)) aNil))))))
@[irreducible] def dc_reached (C_Machine : Addr) : DC := dcOf (ds_reached C_Machine) 6
theorem dm_reached {C_Machine : Addr} : MonoC (dc_reached C_Machine) := by
  unfold dc_reached
  exact mono_dcOf
theorem di_reached {C_Machine : Addr} {args : List Sl} {XX : Exn → List Sl → Prop} {R : Rv → List Sl → Prop} (h : ds_reached C_Machine (fill 6 args) (postF args XX R)) : dc_reached C_Machine args XX R := by
  unfold dc_reached
  exact dcOf.intro h
def ds_is_within_loss (C_Machine : Addr) : DS := (dRet (eCall 3 (dc_is_within C_Machine) (aCons (eVarF 0) (aCons (eC (.int 0)) (aCons (eC (.int 8)) aNil)))))
@[irreducible] def dc_is_within_loss (C_Machine : Addr) : DC := dcOf (ds_is_within_loss C_Machine) 1
theorem dm_is_within_loss {C_Machine : Addr} : MonoC (dc_is_within_loss C_Machine) := by
  unfold dc_is_within_loss
  exact mono_dcOf
theorem di_is_within_loss {C_Machine : Addr} {args : List Sl} {XX : Exn → List Sl → Prop} {R : Rv → List Sl → Prop} (h : ds_is_within_loss C_Machine (fill 1 args) (postF args XX R)) : dc_is_within_loss C_Machine args XX R := by
  unfold dc_is_within_loss
  exact dcOf.intro h
def ds_need_loss (C_Machine : Addr) : DS := (dSeq (dIf (bNot (bV (eCall 1 (dc_is_within_loss C_Machine) (aCons (eVarF 0) aNil)))) dNever dNext) (dRet (eVarF 0)))
@[irreducible] def dc_need_loss (C_Machine : Addr) : DC := dcOf (ds_need_loss C_Machine) 1
theorem dm_need_loss {C_Machine : Addr} : MonoC (dc_need_loss C_Machine) := by
  unfold dc_need_loss
  exact mono_dcOf
theorem di_need_loss {C_Machine : Addr} {args : List Sl} {XX : Exn → List Sl → Prop} {R : Rv → List Sl → Prop} (h : ds_need_loss C_Machine (fill 1 args) (postF args XX R)) : dc_need_loss C_Machine args XX R := by
  unfold dc_need_loss
  exact dcOf.intro h
def ds_need_modulus (C_Machine : Addr) : DS := (dSeq (dIf (bNot (bV (eCall 3 (dc_is_within C_Machine) (aCons (eVarF 0) (aCons (eC (.int 1)) (aCons (eC (.int 9)) aNil)))))) dNever dNext) (dRet (eVarF 0)))
@[irreducible] def dc_need_modulus (C_Machine : Addr) : DC := dcOf (ds_need_modulus C_Machine) 1
theorem dm_need_modulus {C_Machine : Addr} : MonoC (dc_need_modulus C_Machine) := by
  unfold dc_need_modulus
  exact mono_dcOf
theorem di_need_modulus {C_Machine : Addr} {args : List Sl} {XX : Exn → List Sl → Prop} {R : Rv → List Sl → Prop} (h : ds_need_modulus C_Machine (fill 1 args) (postF args XX R)) : dc_need_modulus C_Machine args XX R := by
  unfold dc_need_modulus
  exact dcOf.intro h
def ds_longer_doings (C_Machine : Addr) : DS := (dSeq (dOwn (nC (.dctT [])) 2) (dSeq (dLk 1 (dFor (iItV 1) (dgTup 2 (dgCons (dgName 3) (dgCons (dgName 4) dgNil))) (dFor (iEn (aCons (eAttr C_Machine lay_Machine 0 (eVarF 0)) aNil)) (dgTup 2 (dgCons (dgName 5) (dgCons (dgName 6) dgNil))) (dSeq (dAsg (eB fTuple (aCons (eFz (nLC (iSeq (eVarF 3)) (dgName 8) bYes (eOp dIx (eVarF 6) (eVarF 8)) [8])) aNil)) (dgName 7)) (dIf (tInS true 2 (eVarF 7)) (dAsg (eOp dAdd (eVarF 4) (eTup (aCons (eVarF 5) aNil))) (dgSub 2 (eVarF 7))) dNext))))) (dRet (eVarF 2))))
@[irreducible] def dc_longer_doings (C_Machine : Addr) : DC := dcOf (ds_longer_doings C_Machine) 9
theorem dm_longer_doings {C_Machine : Addr} : MonoC (dc_longer_doings C_Machine) := by
  unfold dc_longer_doings
  exact mono_dcOf
theorem di_longer_doings {C_Machine : Addr} {args : List Sl} {XX : Exn → List Sl → Prop} {R : Rv → List Sl → Prop} (h : ds_longer_doings C_Machine (fill 9 args) (postF args XX R)) : dc_longer_doings C_Machine args XX R := by
  unfold dc_longer_doings
  exact dcOf.intro h
def ds_turned_states (C_Machine : Addr) : DS := (dSeq (dOwn (nDC (iZp (aCons (eVarF 0) (aCons (eVarF 1) aNil))) (dgTup 2 (dgCons (dgName 4) (dgCons (dgName 7) dgNil))) bYes (eVarF 4) (eVarF 7) [4, 7]) 2) (dSeq (dOwn (nLst aNil) 3) (dSeq (dFor (iSeq (eVarF 0)) (dgName 4) (dSeq (dAsg (eGet (eVarF 2) (eVarF 4)) (dgName 5)) (dSeq (dFor (iSeq (eVarF 0)) (dgName 6) (dIf (bV (eOp (dEqD true) (eVarF 5) (eVarF 4))) (dAsg (eGet (eVarF 2) (eVarF 5)) (dgName 5)) dNext)) (dIf (bAnd (bV (eOp (dEqD false) (eVarF 5) (eVarF 4))) (bV (eOp (dEqD true) (eGet (eVarF 2) (eVarF 4)) (eVarF 4)))) (dApp 3 (eVarF 4)) dNext)))) (dRet (eVarF 3)))))
@[irreducible] def dc_turned_states (C_Machine : Addr) : DC := dcOf (ds_turned_states C_Machine) 8
theorem dm_turned_states {C_Machine : Addr} : MonoC (dc_turned_states C_Machine) := by
  unfold dc_turned_states
  exact mono_dcOf
theorem di_turned_states {C_Machine : Addr} {args : List Sl} {XX : Exn → List Sl → Prop} {R : Rv → List Sl → Prop} (h : ds_turned_states C_Machine (fill 8 args) (postF args XX R)) : dc_turned_states C_Machine args XX R := by
  unfold dc_turned_states
  exact dcOf.intro h
def ds_turning_lengths (C_Machine : Addr) : DS := (dSeq (dDrop (eCall 2 (dc_need_state C_Machine) (aCons (eVarF 0) (aCons (eVarF 1) aNil)))) (dSeq (dDrop (eCall 1 (dc_need_loss C_Machine) (aCons (eVarF 2) aNil))) (dSeq (dAsg (eCall 2 (dc_reached C_Machine) (aCons (eVarF 0) (aCons (eVarF 1) aNil))) (dgName 3)) (dSeq (dOwn (nD1T (eVarF 3) (eTup aNil)) 4) (dSeq (dOwn (nLst aNil) 5) (dSeq (dFor (iR2 (aCons (eC (.int 1)) (aCons (eOp dAdd (eVarF 2) (eC (.int 1))) aNil))) (dgName 6) (dSeq (dAsg (eCall 2 (dc_longer_doings C_Machine) (aCons (eVarF 0) (aCons (eVarF 4) aNil))) (dgName 4)) (dIf (bV (eB fAny (aCons (eFz (nLk 4 (nLC (iKyV 4) (dgName 7) bYes (eOp dGt (eB fLen (aCons (eCall 2 (dc_turned_states C_Machine) (aCons (eVarF 3) (aCons (eVarF 7) aNil))) aNil)) (eC (.int 0))) [7]))) aNil))) (dApp 5 (eVarF 6)) dNext))) (dRet (eB fTuple (aCons (eVarF 5) aNil)))))))))
@[irreducible] def dc_turning_lengths (C_Machine : Addr) : DC := dcOf (ds_turning_lengths C_Machine) 8
theorem dm_turning_lengths {C_Machine : Addr} : MonoC (dc_turning_lengths C_Machine) := by
  unfold dc_turning_lengths
  exact mono_dcOf
theorem di_turning_lengths {C_Machine : Addr} {args : List Sl} {XX : Exn → List Sl → Prop} {R : Rv → List Sl → Prop} (h : ds_turning_lengths C_Machine (fill 8 args) (postF args XX R)) : dc_turning_lengths C_Machine args XX R := by
  unfold dc_turning_lengths
  exact dcOf.intro h
def ds_first_rows (C_Machine : Addr) : DS := (dSeq (dOwn (nD1K (eVarF 1) (eTup aNil)) 2) (dSeq (dOwn (nLst (aCons (eVarF 1) aNil)) 3) (dSeq (dAsg (eC (.int 0)) (dgName 4)) (dSeq (dWhile (bV (eOp dLt (eVarF 4) (eLenS 3))) (dSeq (dAsg (eIxS 3 (eVarF 4)) (dgName 5)) (dSeq (dAug 4 (dI0 fun i j => .int (i + j)) (eC (.int 1))) (dFor (iEn (aCons (eAttr C_Machine lay_Machine 0 (eVarF 0)) aNil)) (dgTup 2 (dgCons (dgName 6) (dgCons (dgName 7) dgNil))) (dIf (tInS true 2 (eOp dIx (eVarF 7) (eVarF 5))) (dSeq (dAsg (eOp dAdd (eGetS 2 (eVarF 5)) (eTup (aCons (eVarF 6) aNil))) (dgSub 2 (eOp dIx (eVarF 7) (eVarF 5)))) (dApp 3 (eOp dIx (eVarF 7) (eVarF 5)))) dNext))))) (dRetS 2)))))
@[irreducible] def dc_first_rows (C_Machine : Addr) : DC := dcOf (ds_first_rows C_Machine) 8
theorem dm_first_rows {C_Machine : Addr} : MonoC (dc_first_rows C_Machine) := by
  unfold dc_first_rows
  exact mono_dcOf
theorem di_first_rows {C_Machine : Addr} {args : List Sl} {XX : Exn → List Sl → Prop} {R : Rv → List Sl → Prop} (h : ds_first_rows C_Machine (fill 8 args) (postF args XX R)) : dc_first_rows C_Machine args XX R := by
  unfold dc_first_rows
  exact dcOf.intro h
def ds_row_ahead (C_Machine : Addr) : DS := (dRet (eOp dIx (eFz (nLC (iItN (nCall 2 (dc_first_rows C_Machine) (aCons (eVarF 0) (aCons (eVarF 1) aNil)))) (dgTup 2 (dgCons (dgName 3) (dgCons (dgName 4) dgNil))) (bV (eOp dIn (eVarF 3) (eVarF 2))) (eVarF 4) [3, 4])) (eC (.int 0))))
@[irreducible] def dc_row_ahead (C_Machine : Addr) : DC := dcOf (ds_row_ahead C_Machine) 5
theorem dm_row_ahead {C_Machine : Addr} : MonoC (dc_row_ahead C_Machine) := by
  unfold dc_row_ahead
  exact mono_dcOf
theorem di_row_ahead {C_Machine : Addr} {args : List Sl} {XX : Exn → List Sl → Prop} {R : Rv → List Sl → Prop} (h : ds_row_ahead C_Machine (fill 5 args) (postF args XX R)) : dc_row_ahead C_Machine args XX R := by
  unfold dc_row_ahead
  exact dcOf.intro h
def ds_need_turning (C_Machine : Addr) : DS := (dSeq (dDrop (eCall 2 (dc_need_state C_Machine) (aCons (eVarF 0) (aCons (eVarF 1) aNil)))) (dSeq (dDrop (eCall 1 (dc_need_loss C_Machine) (aCons (eVarF 2) aNil))) (dDrop (eCall 1 (dc_need_modulus C_Machine) (aCons (eVarF 3) aNil)))))
@[irreducible] def dc_need_turning (C_Machine : Addr) : DC := dcOf (ds_need_turning C_Machine) 4
theorem dm_need_turning {C_Machine : Addr} : MonoC (dc_need_turning C_Machine) := by
  unfold dc_need_turning
  exact mono_dcOf
theorem di_need_turning {C_Machine : Addr} {args : List Sl} {XX : Exn → List Sl → Prop} {R : Rv → List Sl → Prop} (h : ds_need_turning C_Machine (fill 4 args) (postF args XX R)) : dc_need_turning C_Machine args XX R := by
  unfold dc_need_turning
  exact dcOf.intro h
def ds_turn_paper (C_Machine : Addr) : DS := (dSeq (dDrop (eCall 4 (dc_need_turning C_Machine) (aCons (eVarF 0) (aCons (eVarF 1) (aCons (eVarF 2) (aCons (eVarF 3) aNil)))))) (dSeq (dAsg (eCall 2 (dc_reached C_Machine) (aCons (eVarF 0) (aCons (eVarF 1) aNil))) (dgName 4)) (dSeq (dOwn (nD1T (eVarF 4) (eTup aNil)) 5) (dSeq (dFor (iR2 (aCons (eC (.int 1)) (aCons (eOp dAdd (eVarF 2) (eC (.int 1))) aNil))) (dgName 6) (dSeq (dAsg (eCall 2 (dc_longer_doings C_Machine) (aCons (eVarF 0) (aCons (eVarF 5) aNil))) (dgName 5)) (dSeq (dIf (bV (eOp (dEqD true) (eOp dMod (eVarF 6) (eVarF 3)) (eC (.int 0)))) dCont dNext) (dLk 5 (dFor (iItV 5) (dgTup 2 (dgCons (dgName 7) (dgCons (dgName 8) dgNil))) (dSeq (dAsg (eCall 2 (dc_turned_states C_Machine) (aCons (eVarF 4) (aCons (eVarF 7) aNil))) (dgName 9)) (dIf (bV (eOp dGt (eB fLen (aCons (eVarF 9) aNil)) (eC (.int 0)))) (dRet (eTup (aCons (eC (.str "turn")) (aCons (eCall 3 (dc_row_ahead C_Machine) (aCons (eVarF 0) (aCons (eVarF 1) (aCons (eVarF 9) aNil)))) (aCons (eVarF 8) aNil))))) dNext))))))) (dRet (eC .none))))))
@[irreducible] def dc_turn_paper (C_Machine : Addr) : DC := dcOf (ds_turn_paper C_Machine) 10
theorem dm_turn_paper {C_Machine : Addr} : MonoC (dc_turn_paper C_Machine) := by
  unfold dc_turn_paper
  exact mono_dcOf
theorem di_turn_paper {C_Machine : Addr} {args : List Sl} {XX : Exn → List Sl → Prop} {R : Rv → List Sl → Prop} (h : ds_turn_paper C_Machine (fill 10 args) (postF args XX R)) : dc_turn_paper C_Machine args XX R := by
  unfold dc_turn_paper
  exact dcOf.intro h
def ds_turned_rows (C_Machine : Addr) : DS := (dSeq (dDrop (eCall 2 (dc_need_state C_Machine) (aCons (eVarF 0) (aCons (eVarF 1) aNil)))) (dSeq (dIf (bNot (bV (eCall 3 (dc_is_within C_Machine) (aCons (eVarF 2) (aCons (eC (.int 0)) (aCons (eC (.int 12)) aNil)))))) dNever dNext) (dSeq (dAsg (eCall 4 (dc_turn_paper C_Machine) (aCons (eVarF 0) (aCons (eVarF 1) (aCons (eVarF 3) (aCons (eVarF 4) aNil))))) (dgName 5)) (dSeq (dIf (bV (eOp (dIsN false) (eVarF 5) (eC .none))) (dRet (eC .none)) dNext) (dSeq (dPar [7, 8] (mD (eOp dIx (eVarF 5) (eC (.int 1))) (mD (eOp dIx (eVarF 5) (eC (.int 2))) mNil))) (dSeq (dAsg (eOp dAdd (eVarF 7) (eOp dMulT (eVarF 8) (eNeg (eOp dFdiv (eNeg (eVarF 2)) (eB fLen (aCons (eVarF 8) aNil)))))) (dgName 6)) (dRet (eTup (aCons (eVarF 6) (aCons (eOp dAdd (eVarF 6) (eVarF 8)) aNil))))))))))
@[irreducible] def dc_turned_rows (C_Machine : Addr) : DC := dcOf (ds_turned_rows C_Machine) 9
theorem dm_turned_rows {C_Machine : Addr} : MonoC (dc_turned_rows C_Machine) := by
  unfold dc_turned_rows
  exact mono_dcOf
theorem di_turned_rows {C_Machine : Addr} {args : List Sl} {XX : Exn → List Sl → Prop} {R : Rv → List Sl → Prop} (h : ds_turned_rows C_Machine (fill 9 args) (postF args XX R)) : dc_turned_rows C_Machine args XX R := by
  unfold dc_turned_rows
  exact dcOf.intro h
def ds_good_moduli (C_Machine : Addr) : DS := (dSeq (dAsg (eCall 3 (dc_turning_lengths C_Machine) (aCons (eVarF 0) (aCons (eVarF 1) (aCons (eVarF 2) aNil)))) (dgName 3)) (dRet (eB fTuple (aCons (eFz (nLC (iR2 (aCons (eC (.int 1)) (aCons (eOp dAdd (eC (.int 9)) (eC (.int 1))) aNil))) (dgName 4) (bV (eB fAll (aCons (eFz (nLC (iSeq (eVarF 3)) (dgName 5) bYes (eOp (dEqD true) (eOp dMod (eVarF 5) (eVarF 4)) (eC (.int 0))) [5])) aNil))) (eVarF 4) [4])) aNil))))
@[irreducible] def dc_good_moduli (C_Machine : Addr) : DC := dcOf (ds_good_moduli C_Machine) 6
theorem dm_good_moduli {C_Machine : Addr} : MonoC (dc_good_moduli C_Machine) := by
  unfold dc_good_moduli
  exact mono_dcOf
theorem di_good_moduli {C_Machine : Addr} {args : List Sl} {XX : Exn → List Sl → Prop} {R : Rv → List Sl → Prop} (h : ds_good_moduli C_Machine (fill 6 args) (postF args XX R)) : dc_good_moduli C_Machine args XX R := by
  unfold dc_good_moduli
  exact dcOf.intro h
def ds__law_box (C_Machine : Addr) : DS := (dSeq (dAsg (eOp dAdd (eOp dMul (eC (.int 5867)) (eVarF 1)) (eC (.int 761))) (dgName 2)) (dSeq (dIf (bV (eOp dLt (eVarF 1) (eB fLen (aCons (eVarF 0) aNil)))) (dAsg (eB fAbs (aCons (eB fInt (aCons (eOp dIx (eVarF 0) (eVarF 1)) aNil)) aNil)) (dgName 2)) (dIf (bV (eOp dGt (eB fLen (aCons (eVarF 0) aNil)) (eC (.int 0)))) (dAsg (eOp dAdd (eVarF 2) (eOp dMul (eOp dMod (eB fInt (aCons (eB fAbs (aCons (eB fInt (aCons (eOp dIx (eVarF 0) (eOp dMod (eB fInt (aCons (eVarF 1) aNil)) (eB fLen (aCons (eVarF 0) aNil)))) aNil)) aNil)) aNil)) (eC (.int 2147483587))) (eC (.int 50441)))) (dgName 2)) dNext)) (dSeq (dAsg (eIf (bV (eOp dGe (eVarF 2) (eOp dPow (eC (.int 10)) (eC (.int 18))))) (eVarF 2) (eC (.int 0))) (dgName 3)) (dRetN (nLst (aCons (eVarF 3) (aCons (eOp dAdd (eOp dMod (eB fInt (aCons (eOp dAdd (eOp dMul (eOp dMod (eB fInt (aCons (eVarF 2) aNil)) (eC (.int 2147483587))) (eC (.int 69709))) (eOp dMul (eC (.int 761)) (eVarF 1))) aNil)) (eC (.int 2147483587))) (eC (.int 1))) aNil)))))))
@[irreducible] def dc__law_box (C_Machine : Addr) : DC := dcOf (ds__law_box C_Machine) 4
theorem dm__law_box {C_Machine : Addr} : MonoC (dc__law_box C_Machine) := by
  unfold dc__law_box
  exact mono_dcOf
theorem di__law_box {C_Machine : Addr} {args : List Sl} {XX : Exn → List Sl → Prop} {R : Rv → List Sl → Prop} (h : ds__law_box C_Machine (fill 4 args) (postF args XX R)) : dc__law_box C_Machine args XX R := by
  unfold dc__law_box
  exact dcOf.intro h
def ds__law_take (C_Machine : Addr) : DS := (dSeq (dIf (bV (eOp dGt (eIxS 0 (eC (.int 0))) (eC (.int 0)))) (dSeq (dAsg (eOp dMod (eB fInt (aCons (eIxS 0 (eC (.int 0))) aNil)) (eVarF 1)) (dgName 3)) (dSeq (dAsg (eOp dFdiv (eIxS 0 (eC (.int 0))) (eVarF 1)) (dgSub 0 (eC (.int 0)))) (dRet (eVarF 3)))) dNext) (dSeq (dAsg (eOp dMod (eB fInt (aCons (eOp dAdd (eOp dMul (eIxS 0 (eC (.int 1))) (eC (.int 40692))) (eC (.int 79))) aNil)) (eC (.int 2147483399))) (dgName 2)) (dSeq (dAsg (eOp dAdd (eOp dMod (eB fInt (aCons (eOp dAdd (eOp dMul (eVarF 2) (eC (.int 39373))) (eC (.int 23))) aNil)) (eC (.int 2147483587))) (eC (.int 1))) (dgSub 0 (eC (.int 1)))) (dRet (eOp dMod (eB fInt (aCons (eOp dFdiv (eOp dAdd (eOp dMul (eVarF 2) (eC (.int 2147483629))) (eIxS 0 (eC (.int 1)))) (eC (.int 8167))) aNil)) (eVarF 1))))))
@[irreducible] def dc__law_take (C_Machine : Addr) : DC := dcOf (ds__law_take C_Machine) 4
theorem dm__law_take {C_Machine : Addr} : MonoC (dc__law_take C_Machine) := by
  unfold dc__law_take
  exact mono_dcOf
theorem di__law_take {C_Machine : Addr} {args : List Sl} {XX : Exn → List Sl → Prop} {R : Rv → List Sl → Prop} (h : ds__law_take C_Machine (fill 4 args) (postF args XX R)) : dc__law_take C_Machine args XX R := by
  unfold dc__law_take
  exact dcOf.intro h
def ds__law_pick (C_Machine : Addr) : DS := (dRet (eOp dIx (eVarF 1) (eCall 2 (dc__law_take C_Machine) (aBor 0 (aCons (eB fLen (aCons (eVarF 1) aNil)) aNil)))))
@[irreducible] def dc__law_pick (C_Machine : Addr) : DC := dcOf (ds__law_pick C_Machine) 2
theorem dm__law_pick {C_Machine : Addr} : MonoC (dc__law_pick C_Machine) := by
  unfold dc__law_pick
  exact mono_dcOf
theorem di__law_pick {C_Machine : Addr} {args : List Sl} {XX : Exn → List Sl → Prop} {R : Rv → List Sl → Prop} (h : ds__law_pick C_Machine (fill 2 args) (postF args XX R)) : dc__law_pick C_Machine args XX R := by
  unfold dc__law_pick
  exact dcOf.intro h
def ds__law_tables (C_Machine : Addr) : DS := (dSeq (dPar [4, 5] (mD (eOp dAdd (eC (.int 1)) (eCall 2 (dc__law_take C_Machine) (aBor 0 (aCons (eVarF 1) aNil)))) (mN (nLst aNil) mNil))) (dSeq (dAsg (eCall 2 (dc__law_take C_Machine) (aBor 0 (aCons (eC (.int 6)) aNil))) (dgName 2)) (dSeq (dFor (iR1 (aCons (eOp dAdd (eC (.int 1)) (eCall 2 (dc__law_take C_Machine) (aBor 0 (aCons (eC (.int 3)) aNil)))) aNil)) (dgName 3) (dSeq (dPar [6, 7] (mD (eCall 2 (dc__law_take C_Machine) (aBor 0 (aCons (eVarF 4) aNil))) (mD (eCall 2 (dc__law_take C_Machine) (aBor 0 (aCons (eVarF 4) aNil))) mNil))) (dIf (bV (eOp (dEqD false) (eVarF 2) (eC (.int 0)))) (dApp 5 (eB fTuple (aCons (eFz (nLC (iR1 (aCons (eVarF 4) aNil)) (dgName 8) bYes (eOp dMod (eB fInt (aCons (eOp dAdd (eVarF 8) (eVarF 6)) aNil)) (eVarF 4)) [8])) aNil))) (dIf (bV (eOp (dEqD false) (eVarF 2) (eC (.int 1)))) (dApp 5 (eB fTuple (aCons (eFz (nLC (iR1 (aCons (eVarF 4) aNil)) (dgName 8) bYes (eIf (bV (eOp (dEqD false) (eVarF 8) (eVarF 6))) (eVarF 7) (eIf (bV (eOp (dEqD false) (eVarF 8) (eVarF 7))) (eVarF 6) (eVarF 8))) [8])) aNil))) (dIf (bV (eOp (dEqD false) (eVarF 2) (eC (.int 2)))) (dApp 5 (eB fTuple (aCons (eFz (nLC (iR1 (aCons (eVarF 4) aNil)) (dgName 8) bYes (eB fMin (aCons (eOp dSub (eVarF 4) (eC (.int 1))) (aCons (eB fMax (aCons (eC (.int 0)) (aCons (eOp dAdd (eVarF 8) (eCall 2 (dc__law_pick C_Machine) (aBor 0 (aCons (eLst (aCons (eVarF 6) (aCons (eOp dSub (eC (.int 0)) (eVarF 7)) aNil))) aNil)))) aNil))) aNil))) [8])) aNil))) (dIf (bV (eOp (dEqD false) (eVarF 2) (eC (.int 3)))) (dApp 5 (eB fTuple (aCons (eFz (nLC (iR1 (aCons (eVarF 4) aNil)) (dgName 8) bYes (eIf (bV (eOp (dEqD false) (eCall 2 (dc__law_take C_Machine) (aBor 0 (aCons (eC (.int 2)) aNil))) (eC (.int 0)))) (eVarF 6) (eVarF 8)) [8])) aNil))) (dApp 5 (eB fTuple (aCons (eFz (nLC (iR1 (aCons (eVarF 4) aNil)) (dgName 8) bYes (eCall 2 (dc__law_take C_Machine) (aBor 0 (aCons (eVarF 4) aNil))) [8])) aNil))))))))) (dRet (eB fTuple (aCons (eVarF 5) aNil))))))
@[irreducible] def dc__law_tables (C_Machine : Addr) : DC := dcOf (ds__law_tables C_Machine) 9
theorem dm__law_tables {C_Machine : Addr} : MonoC (dc__law_tables C_Machine) := by
  unfold dc__law_tables
  exact mono_dcOf
theorem di__law_tables {C_Machine : Addr} {args : List Sl} {XX : Exn → List Sl → Prop} {R : Rv → List Sl → Prop} (h : ds__law_tables C_Machine (fill 9 args) (postF args XX R)) : dc__law_tables C_Machine args XX R := by
  unfold dc__law_tables
  exact dcOf.intro h
def ds__law_led (C_Machine : Addr) : DS := (dSeq (dFor (iSeq (eVarF 2)) (dgName 3) (dAsg (eOp dIx (eOp dIx (eVarF 0) (eVarF 3)) (eVarF 1)) (dgName 1))) (dRet (eVarF 1)))
@[irreducible] def dc__law_led (C_Machine : Addr) : DC := dcOf (ds__law_led C_Machine) 4
theorem dm__law_led {C_Machine : Addr} : MonoC (dc__law_led C_Machine) := by
  unfold dc__law_led
  exact mono_dcOf
theorem di__law_led {C_Machine : Addr} {args : List Sl} {XX : Exn → List Sl → Prop} {R : Rv → List Sl → Prop} (h : ds__law_led C_Machine (fill 4 args) (postF args XX R)) : dc__law_led C_Machine args XX R := by
  unfold dc__law_led
  exact dcOf.intro h
def ds__law_rounds (C_Machine : Addr) : DS := (dSeq (dAsg (eVarF 1) (dgName 3)) (dSeq (dFor (iR2 (aCons (eC (.int 1)) (aCons (eC (.int 9)) aNil))) (dgName 4) (dSeq (dAsg (eCall 3 (dc__law_led C_Machine) (aCons (eVarF 0) (aCons (eVarF 3) (aCons (eVarF 2) aNil)))) (dgName 3)) (dIf (bV (eOp (dEqD false) (eVarF 3) (eVarF 1))) (dRet (eVarF 4)) dNext))) (dRet (eC (.int 0)))))
@[irreducible] def dc__law_rounds (C_Machine : Addr) : DC := dcOf (ds__law_rounds C_Machine) 5
theorem dm__law_rounds {C_Machine : Addr} : MonoC (dc__law_rounds C_Machine) := by
  unfold dc__law_rounds
  exact mono_dcOf
theorem di__law_rounds {C_Machine : Addr} {args : List Sl} {XX : Exn → List Sl → Prop} {R : Rv → List Sl → Prop} (h : ds__law_rounds C_Machine (fill 5 args) (postF args XX R)) : dc__law_rounds C_Machine args XX R := by
  unfold dc__law_rounds
  exact dcOf.intro h
def ds__law_come (C_Machine : Addr) : DS := (dSeq (dPar [3, 4] (mN (nC (.dct [])) (mN (nLst (aCons (eVarF 1) aNil)) mNil))) (dSeq (dAsg (eTup aNil) (dgSub 3 (eVarF 1))) (dSeq (dFor (iR1 (aCons (eC (.int 8)) aNil)) (dgName 2) (dIf (bV (eOp dLt (eVarF 2) (eLenS 4))) (dFor (iR1 (aCons (eB fLen (aCons (eVarF 0) aNil)) aNil)) (dgName 5) (dSeq (dAsg (eOp dIx (eOp dIx (eVarF 0) (eVarF 5)) (eIxS 4 (eVarF 2))) (dgName 6)) (dIf (tInS true 3 (eVarF 6)) (dSeq (dAsg (eOp dAdd (eGetS 3 (eIxS 4 (eVarF 2))) (eTup (aCons (eVarF 5) aNil))) (dgSub 3 (eVarF 6))) (dApp 4 (eVarF 6))) dNext))) dNext)) (dRet (eTup (aCons (eVarF 3) (aCons (eVarF 4) aNil)))))))
@[irreducible] def dc__law_come (C_Machine : Addr) : DC := dcOf (ds__law_come C_Machine) 7
theorem dm__law_come {C_Machine : Addr} : MonoC (dc__law_come C_Machine) := by
  unfold dc__law_come
  exact mono_dcOf
theorem di__law_come {C_Machine : Addr} {args : List Sl} {XX : Exn → List Sl → Prop} {R : Rv → List Sl → Prop} (h : ds__law_come C_Machine (fill 7 args) (postF args XX R)) : dc__law_come C_Machine args XX R := by
  unfold dc__law_come
  exact dcOf.intro h
def ds__law_is_right (C_Machine : Addr) : DS := (dSeq (dOwn (nLst (aCons (eTup aNil) aNil)) 5) (dSeq (dOwn (nLst (aCons (eTup aNil) aNil)) 6) (dSeq (dFor (iR1 (aCons (eVarF 3) aNil)) (dgName 7) (dSeq (dOwn (nLst aNil) 8) (dSeq (dFor (iSeq (eVarF 6)) (dgName 9) (dAsg (eOp dAdd (eVarF 8) (eFz (nLC (iR1 (aCons (eB fLen (aCons (eVarF 0) aNil)) aNil)) (dgName 19) bYes (eOp dAdd (eVarF 9) (eTup (aCons (eVarF 19) aNil))) [19]))) (dgName 8))) (dSeq (dAsg (eVarF 8) (dgName 6)) (dAsg (eOp dAdd (eVarF 5) (eVarF 6)) (dgName 5)))))) (dSeq (dPar [10, 11] (mN (nLst (aCons (eTup (aCons (eVarF 1) (aCons (eTup aNil) (aCons (eC (.int 0)) aNil)))) aNil)) (mN (nC (.dctN [])) mNil))) (dSeq (dAsg (eC (.bool true)) (dgSubN 11 (eTup (aCons (eVarF 1) (aCons (eTup aNil) (aCons (eC (.int 0)) aNil)))))) (dSeq (dFor (iR1 (aCons (eC (.int 900)) aNil)) (dgName 7) (dIf (bV (eOp dLt (eVarF 7) (eLenS 10))) (dSeq (dAsg (eIxS 10 (eVarF 7)) (dgTup 3 (dgCons (dgName 13) (dgCons (dgName 14) (dgCons (dgName 15) dgNil))))) (dSeq (dOwn (nC (.dctN [])) 12) (dFor (iSeq (eVarF 5)) (dgName 9) (dSeq (dAsg (eTup (aCons (eSl (eOp dAdd (eVarF 14) (eVarF 9)) (oSome (eB fMax (aCons (eC (.int 0)) (aCons (eOp dSub (eOp dAdd (eB fLen (aCons (eVarF 14) aNil)) (eB fLen (aCons (eVarF 9) aNil))) (eVarF 2)) aNil)))) oNone) (aCons (eOp dMod (eB fInt (aCons (eOp dAdd (eVarF 15) (eB fLen (aCons (eVarF 9) aNil))) aNil)) (eVarF 4)) aNil))) (dgName 16)) (dSeq (dAsg (eCall 3 (dc__law_led C_Machine) (aCons (eVarF 0) (aCons (eVarF 13) (aCons (eVarF 9) aNil)))) (dgName 17)) (dSeq (dIf (bV (eOp (dEqD true) (eSetdN 12 (eVarF 16) (eVarF 17)) (eVarF 17))) (dRet (eC (.bool false))) dNext) (dIf (bV (eOp (dEqD false) (eB fLen (aCons (eVarF 9) aNil)) (eC (.int 1)))) (dSeq (dAsg (eTup (aCons (eVarF 17) (aCons (eOp dIx (eVarF 16) (eC (.int 0))) (aCons (eOp dIx (eVarF 16) (eC (.int 1))) aNil)))) (dgName 18)) (dIf (tInSN true 11 (eVarF 18)) (dSeq (dAsg (eC (.bool true)) (dgSubN 11 (eVarF 18))) (dApp 10 (eVarF 18))) dNext)) dNext))))))) dNext)) (dRet (eOp dLe (eLenS 10) (eC (.int 900))))))))))
@[irreducible] def dc__law_is_right (C_Machine : Addr) : DC := dcOf (ds__law_is_right C_Machine) 20
theorem dm__law_is_right {C_Machine : Addr} : MonoC (dc__law_is_right C_Machine) := by
  unfold dc__law_is_right
  exact mono_dcOf
theorem di__law_is_right {C_Machine : Addr} {args : List Sl} {XX : Exn → List Sl → Prop} {R : Rv → List Sl → Prop} (h : ds__law_is_right C_Machine (fill 20 args) (postF args XX R)) : dc__law_is_right C_Machine args XX R := by
  unfold dc__law_is_right
  exact dcOf.intro h
def ds__law_goes (C_Machine : Addr) : DS := (dSeq (dPar [5, 6] (mD (eOp dIx (eCall 2 (dc__law_come C_Machine) (aCons (eVarF 0) (aCons (eVarF 1) aNil))) (eC (.int 1))) (mN (nLst (aCons (eTup aNil) aNil)) mNil))) (dSeq (dFor (iR2 (aCons (eC (.int 1)) (aCons (eOp dAdd (eVarF 2) (eC (.int 1))) aNil))) (dgName 4) (dSeq (dOwn (nLst aNil) 7) (dSeq (dFor (iSeq (eVarF 6)) (dgName 8) (dAsg (eOp dAdd (eVarF 7) (eFz (nLC (iR1 (aCons (eB fLen (aCons (eVarF 0) aNil)) aNil)) (dgName 9) bYes (eOp dAdd (eVarF 8) (eTup (aCons (eVarF 9) aNil))) [9]))) (dgName 7))) (dSeq (dAsg (eVarF 7) (dgName 6)) (dFor (iSeq (eIf (bV (eOp (dEqD false) (eOp dMod (eB fInt (aCons (eVarF 4) aNil)) (eVarF 3)) (eC (.int 0)))) (eVarF 6) (eLst aNil))) (dgName 8) (dIf (bV (eOp (dEqD true) (eFz (nLC (iSeq (eVarF 5)) (dgName 10) (bV (eOp dGt (eCall 3 (dc__law_rounds C_Machine) (aCons (eVarF 0) (aCons (eVarF 10) (aCons (eVarF 8) aNil)))) (eC (.int 1)))) (eVarF 10) [10])) (eLst aNil))) (dRet (eC (.bool true))) dNext)))))) (dRet (eC (.bool false)))))
@[irreducible] def dc__law_goes (C_Machine : Addr) : DC := dcOf (ds__law_goes C_Machine) 11
theorem dm__law_goes {C_Machine : Addr} : MonoC (dc__law_goes C_Machine) := by
  unfold dc__law_goes
  exact mono_dcOf
theorem di__law_goes {C_Machine : Addr} {args : List Sl} {XX : Exn → List Sl → Prop} {R : Rv → List Sl → Prop} (h : ds__law_goes C_Machine (fill 11 args) (postF args XX R)) : dc__law_goes C_Machine args XX R := by
  unfold dc__law_goes
  exact dcOf.intro h
def ds__law_wrong_right (C_Machine : Addr) : DS := (dSeq (dFor (iR1 (aCons (eC (.int 13)) aNil)) (dgName 5) (dSeq (dAsg (eCall 5 (dc_turned_rows C_Machine) (aCons (eVarF 0) (aCons (eVarF 2) (aCons (eVarF 5) (aCons (eVarF 3) (aCons (eVarF 4) aNil)))))) (dgName 6)) (dSeq (dIf (bOr (bNot (bV (eIs (isTy "tuple") (eVarF 6)))) (bV (eOp (dEqD true) (eB fLen (aCons (eVarF 6) aNil)) (eC (.int 2))))) (dRet (eC (.bool false))) dNext) (dSeq (dAsg (eVarF 6) (dgTup 2 (dgCons (dgName 7) (dgCons (dgName 8) dgNil)))) (dSeq (dIf (bOr (bV (eOp (dEqD true) (eSl (eVarF 8) oNone (oSome (eB fLen (aCons (eVarF 7) aNil)))) (eVarF 7))) (bNot (bV (eChain dLe dLe (eC (.int 1)) (eOp dSub (eB fLen (aCons (eVarF 8) aNil)) (eB fLen (aCons (eVarF 7) aNil))) (eVarF 3))))) (dRet (eC (.bool false))) dNext) (dSeq (dIf (bOr (bV (eOp (dEqD true) (eSl (eVarF 7) (oSome (eB fMax (aCons (eC (.int 0)) (aCons (eOp dSub (eB fLen (aCons (eVarF 7) aNil)) (eVarF 5)) aNil)))) oNone) (eSl (eVarF 8) (oSome (eB fMax (aCons (eC (.int 0)) (aCons (eOp dSub (eB fLen (aCons (eVarF 8) aNil)) (eVarF 5)) aNil)))) oNone))) (bV (eOp dLt (eB fLen (aCons (eVarF 7) aNil)) (eVarF 5)))) (dRet (eC (.bool false))) dNext) (dIf (bOr (bV (eOp (dEqD true) (eOp dMod (eB fInt (aCons (eOp dSub (eB fLen (aCons (eVarF 8) aNil)) (eB fLen (aCons (eVarF 7) aNil))) aNil)) (eVarF 4)) (eC (.int 0)))) (bV (eOp (dEqD false) (eCall 3 (dc__law_led C_Machine) (aCons (eVarF 1) (aCons (eVarF 2) (aCons (eVarF 7) aNil)))) (eCall 3 (dc__law_led C_Machine) (aCons (eVarF 1) (aCons (eVarF 2) (aCons (eVarF 8) aNil))))))) (dRet (eC (.bool false))) dNext))))))) (dRet (eC (.bool true))))
@[irreducible] def dc__law_wrong_right (C_Machine : Addr) : DC := dcOf (ds__law_wrong_right C_Machine) 9
theorem dm__law_wrong_right {C_Machine : Addr} : MonoC (dc__law_wrong_right C_Machine) := by
  unfold dc__law_wrong_right
  exact mono_dcOf
theorem di__law_wrong_right {C_Machine : Addr} {args : List Sl} {XX : Exn → List Sl → Prop} {R : Rv → List Sl → Prop} (h : ds__law_wrong_right C_Machine (fill 9 args) (postF args XX R)) : dc__law_wrong_right C_Machine args XX R := by
  unfold dc__law_wrong_right
  exact dcOf.intro h
def ds_Machine___init__ (C_Machine : Addr) : DS := (dSeq (dFld C_Machine "tables" 0 (eCall 1 (dc_check_tables C_Machine) (aCons (eVarF 1) aNil))) (dSeq (dFld C_Machine "deeds" 0 (eB fLen (aCons (eFldS C_Machine "tables" 0) aNil))) (dFld C_Machine "states" 0 (eB fLen (aCons (eOp dIx (eFldS C_Machine "tables" 0) (eC (.int 0))) aNil)))))
@[irreducible] def dc_Machine___init__ (C_Machine : Addr) : DC := dcOf (ds_Machine___init__ C_Machine) 2
theorem dm_Machine___init__ {C_Machine : Addr} : MonoC (dc_Machine___init__ C_Machine) := by
  unfold dc_Machine___init__
  exact mono_dcOf
theorem di_Machine___init__ {C_Machine : Addr} {args : List Sl} {XX : Exn → List Sl → Prop} {R : Rv → List Sl → Prop} (h : ds_Machine___init__ C_Machine (fill 2 args) (postF args XX R)) : dc_Machine___init__ C_Machine args XX R := by
  unfold dc_Machine___init__
  exact dcOf.intro h
def ds_law (C_Machine : Addr) : DS := (dSeq (dFor (iR1 (aCons (eC (.int 2)) aNil)) (dgName 1) (dSeq (dOwn (nCall 2 (dc__law_box C_Machine) (aCons (eVarF 0) (aCons (eVarF 1) aNil))) 2) (dSeq (dAsg (eSl (eCall 2 (dc__law_tables C_Machine) (aBor 2 (aCons (eC (.int 4)) aNil))) oNone (oSome (eC (.int 2)))) (dgName 3)) (dSeq (dFor (iR1 (aCons (eC (.int 3)) aNil)) (dgName 4) (dAsg (eIf (bV (eOp (dEqD false) (eB fLen (aCons (eOp dIx (eVarF 3) (eC (.int 0))) aNil)) (eC (.int 1)))) (eSl (eCall 2 (dc__law_tables C_Machine) (aBor 2 (aCons (eC (.int 4)) aNil))) oNone (oSome (eC (.int 2)))) (eVarF 3)) (dgName 3))) (dSeq (dPar [7, 8] (mD (eFz (nMake C_Machine 2 (dc_Machine___init__ C_Machine) (aCons (eVarF 3) aNil))) (mD (eCall 2 (dc__law_take C_Machine) (aBor 2 (aCons (eB fLen (aCons (eOp dIx (eVarF 3) (eC (.int 0))) aNil)) aNil))) mNil))) (dSeq (dAsg (eIf (bV (eOp dGt (eCall 2 (dc__law_take C_Machine) (aBor 2 (aCons (eC (.int 8)) aNil))) (eC (.int 0)))) (eOp dAdd (eC (.int 1)) (eCall 2 (dc__law_take C_Machine) (aBor 2 (aCons (eOp dIx (eLst (aCons (eC (.int 0)) (aCons (eC (.int 3)) (aCons (eC (.int 2)) aNil)))) (eB fLen (aCons (eVarF 3) aNil))) aNil)))) (eC (.int 0))) (dgName 5)) (dSeq (dAsg (eOp dAdd (eC (.int 1)) (eCall 2 (dc__law_take C_Machine) (aBor 2 (aCons (eIf (bV (eOp dLt (eB fLen (aCons (eOp dIx (eVarF 3) (eC (.int 0))) aNil)) (eC (.int 4)))) (eC (.int 4)) (eC (.int 2))) aNil)))) (dgName 6)) (dSeq (dPar [9, 10] (mD (eCall 4 (dc_turn_paper C_Machine) (aCons (eVarF 7) (aCons (eVarF 8) (aCons (eVarF 5) (aCons (eVarF 6) aNil))))) (mD (eCall 4 (dc__law_goes C_Machine) (aCons (eVarF 3) (aCons (eVarF 8) (aCons (eVarF 5) (aCons (eVarF 6) aNil))))) mNil))) (dSeq (dIf (bV (eOp (dEqD true) (eB fRepr (aCons (eLst (aCons (eOp dIn (eVarF 6) (eCall 3 (dc_good_moduli C_Machine) (aCons (eVarF 7) (aCons (eVarF 8) (aCons (eVarF 5) aNil))))) (aCons (eOp (dIsN false) (eVarF 9) (eC .none)) aNil))) aNil)) (eB fRepr (aCons (eLst (aCons (eNot (eVarF 10)) (aCons (eNot (eVarF 10)) aNil))) aNil)))) (dRet (eC (.bool false))) dNext) (dIf (bNot (bV (eVarF 10))) (dSeq (dAsg (eB fLen (aCons (eOp dIx (eCall 2 (dc__law_come C_Machine) (aCons (eVarF 3) (aCons (eVarF 8) aNil))) (eC (.int 1))) aNil)) (dgName 11)) (dIf (bNot (bV (eCall 5 (dc__law_is_right C_Machine) (aCons (eVarF 3) (aCons (eVarF 8) (aCons (eB fMax (aCons (eVarF 5) (aCons (eOp dMul (eVarF 5) (eOp dSub (eVarF 11) (eC (.int 1)))) aNil))) (aCons (eVarF 5) (aCons (eVarF 6) aNil)))))))) (dRet (eC (.bool false))) dNext)) (dSeq (dIf (bNot (bV (eCall 5 (dc__law_wrong_right C_Machine) (aCons (eVarF 7) (aCons (eVarF 3) (aCons (eVarF 8) (aCons (eVarF 5) (aCons (eVarF 6) aNil)))))))) (dRet (eC (.bool false))) dNext) (dSeq (dAsg (eCall 2 (dc__law_take C_Machine) (aBor 2 (aCons (eC (.int 6)) aNil))) (dgName 12)) (dIf (bV (eCall 5 (dc__law_is_right C_Machine) (aCons (eVarF 3) (aCons (eVarF 8) (aCons (eVarF 12) (aCons (eVarF 5) (aCons (eVarF 6) aNil))))))) (dRet (eC (.bool false))) dNext))))))))))))) (dRet (eC (.bool true))))
@[irreducible] def dc_law (C_Machine : Addr) : DC := dcOf (ds_law C_Machine) 13
theorem dm_law {C_Machine : Addr} : MonoC (dc_law C_Machine) := by
  unfold dc_law
  exact mono_dcOf
theorem di_law {C_Machine : Addr} {args : List Sl} {XX : Exn → List Sl → Prop} {R : Rv → List Sl → Prop} (h : ds_law C_Machine (fill 13 args) (postF args XX R)) : dc_law C_Machine args XX R := by
  unfold dc_law
  exact dcOf.intro h
end DL.K18
set_option Elab.async false
set_option linter.all false
set_option maxRecDepth 100000
set_option maxHeartbeats 4000000
namespace DL.K18
open PySem L2 Evl DL
structure G (K : PySem.W.Frag) (mg : Str → Option Value) (C_Machine : Addr) where
  b_abs : mg "abs" = none
  b_all : mg "all" = none
  b_any : mg "any" = none
  b_bool : mg "bool" = none
  b_enumerate : mg "enumerate" = none
  b_int : mg "int" = none
  b_isinstance : mg "isinstance" = none
  b_len : mg "len" = none
  b_list : mg "list" = none
  b_max : mg "max" = none
  b_min : mg "min" = none
  b_range : mg "range" = none
  b_repr : mg "repr" = none
  b_sorted : mg "sorted" = none
  b_tuple : mg "tuple" = none
  b_zip : mg "zip" = none
  u_MOST_DEEDS : Value
  g_MOST_DEEDS : mg "MOST_DEEDS" = some u_MOST_DEEDS ∧ ∃ t, u_MOST_DEEDS = .int 4 t
  u_MOST_LENGTH : Value
  g_MOST_LENGTH : mg "MOST_LENGTH" = some u_MOST_LENGTH ∧ ∃ t, u_MOST_LENGTH = .int 12 t
  u_MOST_LOSS : Value
  g_MOST_LOSS : mg "MOST_LOSS" = some u_MOST_LOSS ∧ ∃ t, u_MOST_LOSS = .int 8 t
  u_MOST_MODULUS : Value
  g_MOST_MODULUS : mg "MOST_MODULUS" = some u_MOST_MODULUS ∧ ∃ t, u_MOST_MODULUS = .int 9 t
  u_MOST_STATES : Value
  g_MOST_STATES : mg "MOST_STATES" = some u_MOST_STATES ∧ ∃ t, u_MOST_STATES = .int 8 t
  u_TURN : Value
  g_TURN : mg "TURN" = some u_TURN ∧ ∃ t, u_TURN = .str "turn" t
  f_is_integer : Addr
  fd_is_integer : FuncData
  F_is_integer : FunD K "is_integer" "is_integer" (defArgs s_is_integer) (defBody s_is_integer) (defScope s_is_integer) [] [] f_is_integer fd_is_integer
  m_is_integer : mg "is_integer" = some (.ref f_is_integer)
  f_is_number : Addr
  fd_is_number : FuncData
  F_is_number : FunD K "is_number" "is_number" (defArgs s_is_number) (defBody s_is_number) (defScope s_is_number) [] [] f_is_number fd_is_number
  m_is_number : mg "is_number" = some (.ref f_is_number)
  f_is_below : Addr
  fd_is_below : FuncData
  F_is_below : FunD K "is_below" "is_below" (defArgs s_is_below) (defBody s_is_below) (defScope s_is_below) [] [] f_is_below fd_is_below
  m_is_below : mg "is_below" = some (.ref f_is_below)
  f_is_within : Addr
  fd_is_within : FuncData
  F_is_within : FunD K "is_within" "is_within" (defArgs s_is_within) (defBody s_is_within) (defScope s_is_within) [] [] f_is_within fd_is_within
  m_is_within : mg "is_within" = some (.ref f_is_within)
  f_is_sequence : Addr
  fd_is_sequence : FuncData
  F_is_sequence : FunD K "is_sequence" "is_sequence" (defArgs s_is_sequence) (defBody s_is_sequence) (defScope s_is_sequence) [] [] f_is_sequence fd_is_sequence
  m_is_sequence : mg "is_sequence" = some (.ref f_is_sequence)
  f_is_table : Addr
  fd_is_table : FuncData
  F_is_table : FunD K "is_table" "is_table" (defArgs s_is_table) (defBody s_is_table) (defScope s_is_table) [] [] f_is_table fd_is_table
  m_is_table : mg "is_table" = some (.ref f_is_table)
  f_check_tables : Addr
  fd_check_tables : FuncData
  F_check_tables : FunD K "check_tables" "check_tables" (defArgs s_check_tables) (defBody s_check_tables) (defScope s_check_tables) [] [] f_check_tables fd_check_tables
  m_check_tables : mg "check_tables" = some (.ref f_check_tables)
  f_need_state : Addr
  fd_need_state : FuncData
  F_need_state : FunD K "need_state" "need_state" (defArgs s_need_state) (defBody s_need_state) (defScope s_need_state) [] [] f_need_state fd_need_state
  m_need_state : mg "need_state" = some (.ref f_need_state)
  f_reached : Addr
  fd_reached : FuncData
  F_reached : FunD K "reached" "reached" (defArgs s_reached) (defBody s_reached) (defScope s_reached) [] [] f_reached fd_reached
  m_reached : mg "reached" = some (.ref f_reached)
  f_is_within_loss : Addr
  fd_is_within_loss : FuncData
  F_is_within_loss : FunD K "is_within_loss" "is_within_loss" (defArgs s_is_within_loss) (defBody s_is_within_loss) (defScope s_is_within_loss) [] [] f_is_within_loss fd_is_within_loss
  m_is_within_loss : mg "is_within_loss" = some (.ref f_is_within_loss)
  f_need_loss : Addr
  fd_need_loss : FuncData
  F_need_loss : FunD K "need_loss" "need_loss" (defArgs s_need_loss) (defBody s_need_loss) (defScope s_need_loss) [] [] f_need_loss fd_need_loss
  m_need_loss : mg "need_loss" = some (.ref f_need_loss)
  f_need_modulus : Addr
  fd_need_modulus : FuncData
  F_need_modulus : FunD K "need_modulus" "need_modulus" (defArgs s_need_modulus) (defBody s_need_modulus) (defScope s_need_modulus) [] [] f_need_modulus fd_need_modulus
  m_need_modulus : mg "need_modulus" = some (.ref f_need_modulus)
  f_longer_doings : Addr
  fd_longer_doings : FuncData
  F_longer_doings : FunD K "longer_doings" "longer_doings" (defArgs s_longer_doings) (defBody s_longer_doings) (defScope s_longer_doings) [] [] f_longer_doings fd_longer_doings
  m_longer_doings : mg "longer_doings" = some (.ref f_longer_doings)
  f_turned_states : Addr
  fd_turned_states : FuncData
  F_turned_states : FunD K "turned_states" "turned_states" (defArgs s_turned_states) (defBody s_turned_states) (defScope s_turned_states) [] [] f_turned_states fd_turned_states
  m_turned_states : mg "turned_states" = some (.ref f_turned_states)
  f_turning_lengths : Addr
  fd_turning_lengths : FuncData
  F_turning_lengths : FunD K "turning_lengths" "turning_lengths" (defArgs s_turning_lengths) (defBody s_turning_lengths) (defScope s_turning_lengths) [] [] f_turning_lengths fd_turning_lengths
  m_turning_lengths : mg "turning_lengths" = some (.ref f_turning_lengths)
  f_first_rows : Addr
  fd_first_rows : FuncData
  F_first_rows : FunD K "first_rows" "first_rows" (defArgs s_first_rows) (defBody s_first_rows) (defScope s_first_rows) [] [] f_first_rows fd_first_rows
  m_first_rows : mg "first_rows" = some (.ref f_first_rows)
  f_row_ahead : Addr
  fd_row_ahead : FuncData
  F_row_ahead : FunD K "row_ahead" "row_ahead" (defArgs s_row_ahead) (defBody s_row_ahead) (defScope s_row_ahead) [] [] f_row_ahead fd_row_ahead
  m_row_ahead : mg "row_ahead" = some (.ref f_row_ahead)
  f_need_turning : Addr
  fd_need_turning : FuncData
  F_need_turning : FunD K "need_turning" "need_turning" (defArgs s_need_turning) (defBody s_need_turning) (defScope s_need_turning) [] [] f_need_turning fd_need_turning
  m_need_turning : mg "need_turning" = some (.ref f_need_turning)
  f_turn_paper : Addr
  fd_turn_paper : FuncData
  F_turn_paper : FunD K "turn_paper" "turn_paper" (defArgs s_turn_paper) (defBody s_turn_paper) (defScope s_turn_paper) [V.int 1] [] f_turn_paper fd_turn_paper
  m_turn_paper : mg "turn_paper" = some (.ref f_turn_paper)
  f_turned_rows : Addr
  fd_turned_rows : FuncData
  F_turned_rows : FunD K "turned_rows" "turned_rows" (defArgs s_turned_rows) (defBody s_turned_rows) (defScope s_turned_rows) [V.int 1] [] f_turned_rows fd_turned_rows
  m_turned_rows : mg "turned_rows" = some (.ref f_turned_rows)
  f_good_moduli : Addr
  fd_good_moduli : FuncData
  F_good_moduli : FunD K "good_moduli" "good_moduli" (defArgs s_good_moduli) (defBody s_good_moduli) (defScope s_good_moduli) [] [] f_good_moduli fd_good_moduli
  m_good_moduli : mg "good_moduli" = some (.ref f_good_moduli)
  f__law_box : Addr
  fd__law_box : FuncData
  F__law_box : FunD K "_law_box" "_law_box" (defArgs s__law_box) (defBody s__law_box) (defScope s__law_box) [] [] f__law_box fd__law_box
  m__law_box : mg "_law_box" = some (.ref f__law_box)
  f__law_take : Addr
  fd__law_take : FuncData
  F__law_take : FunD K "_law_take" "_law_take" (defArgs s__law_take) (defBody s__law_take) (defScope s__law_take) [] [] f__law_take fd__law_take
  m__law_take : mg "_law_take" = some (.ref f__law_take)
  f__law_pick : Addr
  fd__law_pick : FuncData
  F__law_pick : FunD K "_law_pick" "_law_pick" (defArgs s__law_pick) (defBody s__law_pick) (defScope s__law_pick) [] [] f__law_pick fd__law_pick
  m__law_pick : mg "_law_pick" = some (.ref f__law_pick)
  f__law_tables : Addr
  fd__law_tables : FuncData
  F__law_tables : FunD K "_law_tables" "_law_tables" (defArgs s__law_tables) (defBody s__law_tables) (defScope s__law_tables) [] [] f__law_tables fd__law_tables
  m__law_tables : mg "_law_tables" = some (.ref f__law_tables)
  f__law_led : Addr
  fd__law_led : FuncData
  F__law_led : FunD K "_law_led" "_law_led" (defArgs s__law_led) (defBody s__law_led) (defScope s__law_led) [] [] f__law_led fd__law_led
  m__law_led : mg "_law_led" = some (.ref f__law_led)
  f__law_rounds : Addr
  fd__law_rounds : FuncData
  F__law_rounds : FunD K "_law_rounds" "_law_rounds" (defArgs s__law_rounds) (defBody s__law_rounds) (defScope s__law_rounds) [] [] f__law_rounds fd__law_rounds
  m__law_rounds : mg "_law_rounds" = some (.ref f__law_rounds)
  f__law_come : Addr
  fd__law_come : FuncData
  F__law_come : FunD K "_law_come" "_law_come" (defArgs s__law_come) (defBody s__law_come) (defScope s__law_come) [] [] f__law_come fd__law_come
  m__law_come : mg "_law_come" = some (.ref f__law_come)
  f__law_is_right : Addr
  fd__law_is_right : FuncData
  F__law_is_right : FunD K "_law_is_right" "_law_is_right" (defArgs s__law_is_right) (defBody s__law_is_right) (defScope s__law_is_right) [] [] f__law_is_right fd__law_is_right
  m__law_is_right : mg "_law_is_right" = some (.ref f__law_is_right)
  f__law_goes : Addr
  fd__law_goes : FuncData
  F__law_goes : FunD K "_law_goes" "_law_goes" (defArgs s__law_goes) (defBody s__law_goes) (defScope s__law_goes) [] [] f__law_goes fd__law_goes
  m__law_goes : mg "_law_goes" = some (.ref f__law_goes)
  f__law_wrong_right : Addr
  fd__law_wrong_right : FuncData
  F__law_wrong_right : FunD K "_law_wrong_right" "_law_wrong_right" (defArgs s__law_wrong_right) (defBody s__law_wrong_right) (defScope s__law_wrong_right) [] [] f__law_wrong_right fd__law_wrong_right
  m__law_wrong_right : mg "_law_wrong_right" = some (.ref f__law_wrong_right)
  f_Machine___init__ : Addr
  fd_Machine___init__ : FuncData
  F_Machine___init__ : FunD K "__init__" "Machine.__init__" (defArgs s_Machine___init__) (defBody s_Machine___init__) (defScope s_Machine___init__) [] [] f_Machine___init__ fd_Machine___init__
  f_law : Addr
  fd_law : FuncData
  F_law : FunD K "law" "law" (defArgs s_law) (defBody s_law) (defScope s_law) [] [] f_law fd_law
  m_law : mg "law" = some (.ref f_law)
  mc_Machine : mg "Machine" = some (.ref C_Machine)
  cls_Machine : Cls K C_Machine
  na_Machine_tables : NoAttr K C_Machine "tables"
  na_Machine_deeds : NoAttr K C_Machine "deeds"
  na_Machine_states : NoAttr K C_Machine "states"
  mk_Machine : Mk K C_Machine f_Machine___init__
section
variable {K : PySem.W.Frag} {mg : Str → Option Value} {f : Addr} {fd : FuncData}
theorem b_is_integer (F : FunD K "is_integer" "is_integer" (defArgs s_is_integer) (defBody s_is_integer) (defScope s_is_integer) [] [] f fd) : Binds K fd ["value"] [] := FunD.bindsN F fun _ _ _ _ _ _ us hl => match us, hl with | [_], _ => rfl
theorem b_is_number (F : FunD K "is_number" "is_number" (defArgs s_is_number) (defBody s_is_number) (defScope s_is_number) [] [] f fd) : Binds K fd ["value"] [] := FunD.bindsN F fun _ _ _ _ _ _ us hl => match us, hl with | [_], _ => rfl
theorem b_is_below (F : FunD K "is_below" "is_below" (defArgs s_is_below) (defBody s_is_below) (defScope s_is_below) [] [] f fd) : Binds K fd ["value", "most"] [] := FunD.bindsN F fun _ _ _ _ _ _ us hl => match us, hl with | [_, _], _ => rfl
theorem b_is_within (F : FunD K "is_within" "is_within" (defArgs s_is_within) (defBody s_is_within) (defScope s_is_within) [] [] f fd) : Binds K fd ["value", "least", "most"] [] := FunD.bindsN F fun _ _ _ _ _ _ us hl => match us, hl with | [_, _, _], _ => rfl
theorem b_is_sequence (F : FunD K "is_sequence" "is_sequence" (defArgs s_is_sequence) (defBody s_is_sequence) (defScope s_is_sequence) [] [] f fd) : Binds K fd ["value"] [] := FunD.bindsN F fun _ _ _ _ _ _ us hl => match us, hl with | [_], _ => rfl
theorem b_is_table (F : FunD K "is_table" "is_table" (defArgs s_is_table) (defBody s_is_table) (defScope s_is_table) [] [] f fd) : Binds K fd ["value", "states"] [] := FunD.bindsN F fun _ _ _ _ _ _ us hl => match us, hl with | [_, _], _ => rfl
theorem b_check_tables (F : FunD K "check_tables" "check_tables" (defArgs s_check_tables) (defBody s_check_tables) (defScope s_check_tables) [] [] f fd) : Binds K fd ["value"] [] := FunD.bindsN F fun _ _ _ _ _ _ us hl => match us, hl with | [_], _ => rfl
theorem b_need_state (F : FunD K "need_state" "need_state" (defArgs s_need_state) (defBody s_need_state) (defScope s_need_state) [] [] f fd) : Binds K fd ["machine", "state"] [] := FunD.bindsN F fun _ _ _ _ _ _ us hl => match us, hl with | [_, _], _ => rfl
theorem b_reached (F : FunD K "reached" "reached" (defArgs s_reached) (defBody s_reached) (defScope s_reached) [] [] f fd) : Binds K fd ["machine", "state"] [] := FunD.bindsN F fun _ _ _ _ _ _ us hl => match us, hl with | [_, _], _ => rfl
theorem b_is_within_loss (F : FunD K "is_within_loss" "is_within_loss" (defArgs s_is_within_loss) (defBody s_is_within_loss) (defScope s_is_within_loss) [] [] f fd) : Binds K fd ["value"] [] := FunD.bindsN F fun _ _ _ _ _ _ us hl => match us, hl with | [_], _ => rfl
theorem b_need_loss (F : FunD K "need_loss" "need_loss" (defArgs s_need_loss) (defBody s_need_loss) (defScope s_need_loss) [] [] f fd) : Binds K fd ["value"] [] := FunD.bindsN F fun _ _ _ _ _ _ us hl => match us, hl with | [_], _ => rfl
theorem b_need_modulus (F : FunD K "need_modulus" "need_modulus" (defArgs s_need_modulus) (defBody s_need_modulus) (defScope s_need_modulus) [] [] f fd) : Binds K fd ["value"] [] := FunD.bindsN F fun _ _ _ _ _ _ us hl => match us, hl with | [_], _ => rfl
theorem b_longer_doings (F : FunD K "longer_doings" "longer_doings" (defArgs s_longer_doings) (defBody s_longer_doings) (defScope s_longer_doings) [] [] f fd) : Binds K fd ["machine", "layer"] [] := FunD.bindsN F fun _ _ _ _ _ _ us hl => match us, hl with | [_, _], _ => rfl
theorem b_turned_states (F : FunD K "turned_states" "turned_states" (defArgs s_turned_states) (defBody s_turned_states) (defScope s_turned_states) [] [] f fd) : Binds K fd ["lot", "images"] [] := FunD.bindsN F fun _ _ _ _ _ _ us hl => match us, hl with | [_, _], _ => rfl
theorem b_turning_lengths (F : FunD K "turning_lengths" "turning_lengths" (defArgs s_turning_lengths) (defBody s_turning_lengths) (defScope s_turning_lengths) [] [] f fd) : Binds K fd ["machine", "first", "loss"] [] := FunD.bindsN F fun _ _ _ _ _ _ us hl => match us, hl with | [_, _, _], _ => rfl
theorem b_first_rows (F : FunD K "first_rows" "first_rows" (defArgs s_first_rows) (defBody s_first_rows) (defScope s_first_rows) [] [] f fd) : Binds K fd ["machine", "first"] [] := FunD.bindsN F fun _ _ _ _ _ _ us hl => match us, hl with | [_, _], _ => rfl
theorem b_row_ahead (F : FunD K "row_ahead" "row_ahead" (defArgs s_row_ahead) (defBody s_row_ahead) (defScope s_row_ahead) [] [] f fd) : Binds K fd ["machine", "first", "states"] [] := FunD.bindsN F fun _ _ _ _ _ _ us hl => match us, hl with | [_, _, _], _ => rfl
theorem b_need_turning (F : FunD K "need_turning" "need_turning" (defArgs s_need_turning) (defBody s_need_turning) (defScope s_need_turning) [] [] f fd) : Binds K fd ["machine", "first", "loss", "modulus"] [] := FunD.bindsN F fun _ _ _ _ _ _ us hl => match us, hl with | [_, _, _, _], _ => rfl
theorem bx_turn_paper (F : FunD K "turn_paper" "turn_paper" (defArgs s_turn_paper) (defBody s_turn_paper) (defScope s_turn_paper) [V.int 1] [] f fd) : ∃ ds, Vals (([V.int 1] : List V).drop 1) ds ∧ Binds K fd ["machine", "first", "loss", "modulus"] ds := FunD.binds1 F 4 1 (by simp) rfl fun _ _ _ _ _ _ _ us its hl h2 => match us, its, hl, h2 with | [_, _, _, _], [_], _, _ => ⟨_, rfl, rfl⟩
theorem b_turn_paper (F : FunD K "turn_paper" "turn_paper" (defArgs s_turn_paper) (defBody s_turn_paper) (defScope s_turn_paper) [V.int 1] [] f fd) : Binds K fd ["machine", "first", "loss", "modulus"] [] := by
  obtain ⟨ds, hv, hb⟩ := bx_turn_paper F
  cases hv
  exact hb
theorem bx_turned_rows (F : FunD K "turned_rows" "turned_rows" (defArgs s_turned_rows) (defBody s_turned_rows) (defScope s_turned_rows) [V.int 1] [] f fd) : ∃ ds, Vals (([V.int 1] : List V).drop 1) ds ∧ Binds K fd ["machine", "first", "length", "loss", "modulus"] ds := FunD.binds1 F 5 1 (by simp) rfl fun _ _ _ _ _ _ _ us its hl h2 => match us, its, hl, h2 with | [_, _, _, _, _], [_], _, _ => ⟨_, rfl, rfl⟩
theorem b_turned_rows (F : FunD K "turned_rows" "turned_rows" (defArgs s_turned_rows) (defBody s_turned_rows) (defScope s_turned_rows) [V.int 1] [] f fd) : Binds K fd ["machine", "first", "length", "loss", "modulus"] [] := by
  obtain ⟨ds, hv, hb⟩ := bx_turned_rows F
  cases hv
  exact hb
theorem b_good_moduli (F : FunD K "good_moduli" "good_moduli" (defArgs s_good_moduli) (defBody s_good_moduli) (defScope s_good_moduli) [] [] f fd) : Binds K fd ["machine", "first", "loss"] [] := FunD.bindsN F fun _ _ _ _ _ _ us hl => match us, hl with | [_, _, _], _ => rfl
theorem b__law_box (F : FunD K "_law_box" "_law_box" (defArgs s__law_box) (defBody s__law_box) (defScope s__law_box) [] [] f fd) : Binds K fd ["script", "k"] [] := FunD.bindsN F fun _ _ _ _ _ _ us hl => match us, hl with | [_, _], _ => rfl
theorem b__law_take (F : FunD K "_law_take" "_law_take" (defArgs s__law_take) (defBody s__law_take) (defScope s__law_take) [] [] f fd) : Binds K fd ["box", "many"] [] := FunD.bindsN F fun _ _ _ _ _ _ us hl => match us, hl with | [_, _], _ => rfl
theorem b__law_pick (F : FunD K "_law_pick" "_law_pick" (defArgs s__law_pick) (defBody s__law_pick) (defScope s__law_pick) [] [] f fd) : Binds K fd ["box", "some"] [] := FunD.bindsN F fun _ _ _ _ _ _ us hl => match us, hl with | [_, _], _ => rfl
theorem b__law_tables (F : FunD K "_law_tables" "_law_tables" (defArgs s__law_tables) (defBody s__law_tables) (defScope s__law_tables) [] [] f fd) : Binds K fd ["box", "most"] [] := FunD.bindsN F fun _ _ _ _ _ _ us hl => match us, hl with | [_, _], _ => rfl
theorem b__law_led (F : FunD K "_law_led" "_law_led" (defArgs s__law_led) (defBody s__law_led) (defScope s__law_led) [] [] f fd) : Binds K fd ["tables", "state", "row"] [] := FunD.bindsN F fun _ _ _ _ _ _ us hl => match us, hl with | [_, _, _], _ => rfl
theorem b__law_rounds (F : FunD K "_law_rounds" "_law_rounds" (defArgs s__law_rounds) (defBody s__law_rounds) (defScope s__law_rounds) [] [] f fd) : Binds K fd ["tables", "state", "row"] [] := FunD.bindsN F fun _ _ _ _ _ _ us hl => match us, hl with | [_, _, _], _ => rfl
theorem b__law_come (F : FunD K "_law_come" "_law_come" (defArgs s__law_come) (defBody s__law_come) (defScope s__law_come) [] [] f fd) : Binds K fd ["tables", "first"] [] := FunD.bindsN F fun _ _ _ _ _ _ us hl => match us, hl with | [_, _], _ => rfl
theorem b__law_is_right (F : FunD K "_law_is_right" "_law_is_right" (defArgs s__law_is_right) (defBody s__law_is_right) (defScope s__law_is_right) [] [] f fd) : Binds K fd ["tables", "first", "length", "loss", "modulus"] [] := FunD.bindsN F fun _ _ _ _ _ _ us hl => match us, hl with | [_, _, _, _, _], _ => rfl
theorem b__law_goes (F : FunD K "_law_goes" "_law_goes" (defArgs s__law_goes) (defBody s__law_goes) (defScope s__law_goes) [] [] f fd) : Binds K fd ["tables", "first", "loss", "modulus"] [] := FunD.bindsN F fun _ _ _ _ _ _ us hl => match us, hl with | [_, _, _, _], _ => rfl
theorem b__law_wrong_right (F : FunD K "_law_wrong_right" "_law_wrong_right" (defArgs s__law_wrong_right) (defBody s__law_wrong_right) (defScope s__law_wrong_right) [] [] f fd) : Binds K fd ["machine", "tables", "first", "loss", "modulus"] [] := FunD.bindsN F fun _ _ _ _ _ _ us hl => match us, hl with | [_, _, _, _, _], _ => rfl
theorem b_Machine___init__ (F : FunD K "__init__" "Machine.__init__" (defArgs s_Machine___init__) (defBody s_Machine___init__) (defScope s_Machine___init__) [] [] f fd) : Binds K fd ["self", "tables"] [] := FunD.bindsN F fun _ _ _ _ _ _ us hl => match us, hl with | [_, _], _ => rfl
theorem b_law (F : FunD K "law" "law" (defArgs s_law) (defBody s_law) (defScope s_law) [] [] f fd) : Binds K fd ["script"] [] := FunD.bindsN F fun _ _ _ _ _ _ us hl => match us, hl with | [_], _ => rfl
end
section
variable {P : Program} {w : World} {K : PySem.W.Frag} {mg : Str → Option Value} {base : Heap} {C_Machine : Addr}
theorem sc_is_integer : FnScope ["value"] ["value"] (defScope s_is_integer) := ⟨rfl, rfl, rfl, by decide +kernel, rfl, by decide +kernel, by decide +kernel⟩
theorem ok_is_integer (Γ : G K mg C_Machine) : FnOk P w K mg base (L2.CX P w) 1 Γ.f_is_integer Γ.fd_is_integer ["value"] (spD K 1 (dc_is_integer C_Machine)) := by
  have sc := sc_is_integer
  refine FunD.ok Γ.F_is_integer sc (fun _ _ _ _ h => h.1) fun cdv A outer s H vs Q E hr h => ?_
  have tk : Takes (cxOf (L2.CX P w) P w K mg base ["value"] "is_integer" (defScope s_is_integer) Γ.f_is_integer cdv A outer s H E) (fun cls d _ H => E cls d H) := takes_of rfl rfl rfl rfl
  have hp : PassesOwn (model P w) (cxOf (L2.CX P w) P w K mg base ["value"] "is_integer" (defScope s_is_integer) Γ.f_is_integer cdv A outer s H E).A (cxOf (L2.CX P w) P w K mg base ["value"] "is_integer" (defScope s_is_integer) Γ.f_is_integer cdv A outer s H E).env (cxOf (L2.CX P w) P w K mg base ["value"] "is_integer" (defScope s_is_integer) Γ.f_is_integer cdv A outer s H E).xe := passes_of rfl
  have der : PDSs (cxOf (L2.CX P w) P w K mg base ["value"] "is_integer" (defScope s_is_integer) Γ.f_is_integer cdv A outer s H E) (fun cls d _ H => E cls d H) (defBody s_is_integer) (ds_is_integer C_Machine) :=
    (pdss_one (pds_ret (pd_and (pd_isT rfl Γ.b_isinstance rfl Γ.b_int rfl (pd_varF 0)) (pd_one (pd_not (pd_isT rfl Γ.b_isinstance rfl Γ.b_bool rfl (pd_varF 0)))))))
  unfold dc_is_integer at h
  exact ⟨_, der.run, body_of2 h der.mono⟩
theorem sc_is_number : FnScope ["value"] ["value"] (defScope s_is_number) := ⟨rfl, rfl, rfl, by decide +kernel, rfl, by decide +kernel, by decide +kernel⟩
theorem ok_is_number (Γ : G K mg C_Machine) : FnOk P w K mg base (L2.CX P w) 2 Γ.f_is_number Γ.fd_is_number ["value"] (spD K 1 (dc_is_number C_Machine)) := by
  have sc := sc_is_number
  refine FunD.ok Γ.F_is_number sc (fun _ _ _ _ h => h.1) fun cdv A outer s H vs Q E hr h => ?_
  have tk : Takes (cxOf (L2.CX P w) P w K mg base ["value"] "is_number" (defScope s_is_number) Γ.f_is_number cdv A outer s H E) (fun cls d _ H => E cls d H) := takes_of rfl rfl rfl rfl
  have hp : PassesOwn (model P w) (cxOf (L2.CX P w) P w K mg base ["value"] "is_number" (defScope s_is_number) Γ.f_is_number cdv A outer s H E).A (cxOf (L2.CX P w) P w K mg base ["value"] "is_number" (defScope s_is_number) Γ.f_is_number cdv A outer s H E).env (cxOf (L2.CX P w) P w K mg base ["value"] "is_number" (defScope s_is_number) Γ.f_is_number cdv A outer s H E).xe := passes_of rfl
  have der : PDSs (cxOf (L2.CX P w) P w K mg base ["value"] "is_number" (defScope s_is_number) Γ.f_is_number cdv A outer s H E) (fun cls d _ H => E cls d H) (defBody s_is_number) (ds_is_number C_Machine) :=
    (pdss_one (pds_ret (pd_and (pd_call dm_is_integer (ok_is_integer Γ) (hr.mono (by decide)) rfl Γ.m_is_integer Γ.F_is_integer.kp (b_is_integer Γ.F_is_integer) tk (pda_cons (pd_varF 0) pda_nil)) (pd_one (pd_cmp op_ge ro_boo0 (pd_varF 0) pd_int (nomark _))))))
  unfold dc_is_number at h
  exact ⟨_, der.run, body_of2 h der.mono⟩
theorem sc_is_below : FnScope ["value", "most"] ["value", "most"] (defScope s_is_below) := ⟨rfl, rfl, rfl, by decide +kernel, rfl, by decide +kernel, by decide +kernel⟩
theorem ok_is_below (Γ : G K mg C_Machine) : FnOk P w K mg base (L2.CX P w) 3 Γ.f_is_below Γ.fd_is_below ["value", "most"] (spD K 2 (dc_is_below C_Machine)) := by
  have sc := sc_is_below
  refine FunD.ok Γ.F_is_below sc (fun _ _ _ _ h => h.1) fun cdv A outer s H vs Q E hr h => ?_
  have tk : Takes (cxOf (L2.CX P w) P w K mg base ["value", "most"] "is_below" (defScope s_is_below) Γ.f_is_below cdv A outer s H E) (fun cls d _ H => E cls d H) := takes_of rfl rfl rfl rfl
  have hp : PassesOwn (model P w) (cxOf (L2.CX P w) P w K mg base ["value", "most"] "is_below" (defScope s_is_below) Γ.f_is_below cdv A outer s H E).A (cxOf (L2.CX P w) P w K mg base ["value", "most"] "is_below" (defScope s_is_below) Γ.f_is_below cdv A outer s H E).env (cxOf (L2.CX P w) P w K mg base ["value", "most"] "is_below" (defScope s_is_below) Γ.f_is_below cdv A outer s H E).xe := passes_of rfl
  have der : PDSs (cxOf (L2.CX P w) P w K mg base ["value", "most"] "is_below" (defScope s_is_below) Γ.f_is_below cdv A outer s H E) (fun cls d _ H => E cls d H) (defBody s_is_below) (ds_is_below C_Machine) :=
    (pdss_one (pds_ret (pd_and (pd_call dm_is_number (ok_is_number Γ) (hr.mono (by decide)) rfl Γ.m_is_number Γ.F_is_number.kp (b_is_number Γ.F_is_number) tk (pda_cons (pd_varF 0) pda_nil)) (pd_one (pd_cmp op_lt ro_boo0 (pd_varF 0) (pd_varF 1) (nomark _))))))
  unfold dc_is_below at h
  exact ⟨_, der.run, body_of2 h der.mono⟩
theorem sc_is_within : FnScope ["value", "least", "most"] ["value", "least", "most"] (defScope s_is_within) := ⟨rfl, rfl, rfl, by decide +kernel, rfl, by decide +kernel, by decide +kernel⟩
theorem ok_is_within (Γ : G K mg C_Machine) : FnOk P w K mg base (L2.CX P w) 2 Γ.f_is_within Γ.fd_is_within ["value", "least", "most"] (spD K 3 (dc_is_within C_Machine)) := by
  have sc := sc_is_within
  refine FunD.ok Γ.F_is_within sc (fun _ _ _ _ h => h.1) fun cdv A outer s H vs Q E hr h => ?_
  have tk : Takes (cxOf (L2.CX P w) P w K mg base ["value", "least", "most"] "is_within" (defScope s_is_within) Γ.f_is_within cdv A outer s H E) (fun cls d _ H => E cls d H) := takes_of rfl rfl rfl rfl
  have hp : PassesOwn (model P w) (cxOf (L2.CX P w) P w K mg base ["value", "least", "most"] "is_within" (defScope s_is_within) Γ.f_is_within cdv A outer s H E).A (cxOf (L2.CX P w) P w K mg base ["value", "least", "most"] "is_within" (defScope s_is_within) Γ.f_is_within cdv A outer s H E).env (cxOf (L2.CX P w) P w K mg base ["value", "least", "most"] "is_within" (defScope s_is_within) Γ.f_is_within cdv A outer s H E).xe := passes_of rfl
  have der : PDSs (cxOf (L2.CX P w) P w K mg base ["value", "least", "most"] "is_within" (defScope s_is_within) Γ.f_is_within cdv A outer s H E) (fun cls d _ H => E cls d H) (defBody s_is_within) (ds_is_within C_Machine) :=
    (pdss_one (pds_ret (pd_and (pd_call dm_is_integer (ok_is_integer Γ) (hr.mono (by decide)) rfl Γ.m_is_integer Γ.F_is_integer.kp (b_is_integer Γ.F_is_integer) tk (pda_cons (pd_varF 0) pda_nil)) (pd_one (pd_chain op_le ro_boo0 op_le ro_boo0 (pd_varF 1) (pd_varF 0) (pd_varF 2))))))
  unfold dc_is_within at h
  exact ⟨_, der.run, body_of2 h der.mono⟩
theorem sc_is_sequence : FnScope ["value"] ["value"] (defScope s_is_sequence) := ⟨rfl, rfl, rfl, by decide +kernel, rfl, by decide +kernel, by decide +kernel⟩
theorem ok_is_sequence (Γ : G K mg C_Machine) : FnOk P w K mg base (L2.CX P w) 1 Γ.f_is_sequence Γ.fd_is_sequence ["value"] (spD K 1 (dc_is_sequence C_Machine)) := by
  have sc := sc_is_sequence
  refine FunD.ok Γ.F_is_sequence sc (fun _ _ _ _ h => h.1) fun cdv A outer s H vs Q E hr h => ?_
  have tk : Takes (cxOf (L2.CX P w) P w K mg base ["value"] "is_sequence" (defScope s_is_sequence) Γ.f_is_sequence cdv A outer s H E) (fun cls d _ H => E cls d H) := takes_of rfl rfl rfl rfl
  have hp : PassesOwn (model P w) (cxOf (L2.CX P w) P w K mg base ["value"] "is_sequence" (defScope s_is_sequence) Γ.f_is_sequence cdv A outer s H E).A (cxOf (L2.CX P w) P w K mg base ["value"] "is_sequence" (defScope s_is_sequence) Γ.f_is_sequence cdv A outer s H E).env (cxOf (L2.CX P w) P w K mg base ["value"] "is_sequence" (defScope s_is_sequence) Γ.f_is_sequence cdv A outer s H E).xe := passes_of rfl
  have der : PDSs (cxOf (L2.CX P w) P w K mg base ["value"] "is_sequence" (defScope s_is_sequence) Γ.f_is_sequence cdv A outer s H E) (fun cls d _ H => E cls d H) (defBody s_is_sequence) (ds_is_sequence C_Machine) :=
    (pdss_one (pds_ret (pd_isT2 rfl Γ.b_isinstance rfl Γ.b_list rfl rfl Γ.b_tuple rfl (pd_varF 0))))
  unfold dc_is_sequence at h
  exact ⟨_, der.run, body_of2 h der.mono⟩
theorem sc_is_table : FnScope ["value", "states", "state"] ["value", "states"] (defScope s_is_table) := ⟨rfl, rfl, rfl, by decide +kernel, rfl, by decide +kernel, by decide +kernel⟩
theorem ok_is_table (Γ : G K mg C_Machine) : FnOk P w K mg base (L2.CX P w) 4 Γ.f_is_table Γ.fd_is_table ["value", "states"] (spD K 2 (dc_is_table C_Machine)) := by
  have sc := sc_is_table
  refine FunD.ok Γ.F_is_table sc (fun _ _ _ _ h => h.1) fun cdv A outer s H vs Q E hr h => ?_
  have tk : Takes (cxOf (L2.CX P w) P w K mg base ["value", "states", "state"] "is_table" (defScope s_is_table) Γ.f_is_table cdv A outer s H E) (fun cls d _ H => E cls d H) := takes_of rfl rfl rfl rfl
  have hp : PassesOwn (model P w) (cxOf (L2.CX P w) P w K mg base ["value", "states", "state"] "is_table" (defScope s_is_table) Γ.f_is_table cdv A outer s H E).A (cxOf (L2.CX P w) P w K mg base ["value", "states", "state"] "is_table" (defScope s_is_table) Γ.f_is_table cdv A outer s H E).env (cxOf (L2.CX P w) P w K mg base ["value", "states", "state"] "is_table" (defScope s_is_table) Γ.f_is_table cdv A outer s H E).xe := passes_of rfl
  have der : PDSs (cxOf (L2.CX P w) P w K mg base ["value", "states", "state"] "is_table" (defScope s_is_table) Γ.f_is_table cdv A outer s H E) (fun cls d _ H => E cls d H) (defBody s_is_table) (ds_is_table C_Machine) :=
    (pdss_one (pds_ret (pd_and (pd_call dm_is_sequence (ok_is_sequence Γ) (hr.mono (by decide)) rfl Γ.m_is_sequence Γ.F_is_sequence.kp (b_is_sequence Γ.F_is_sequence) tk (pda_cons (pd_varF 0) pda_nil)) (pd_and (pd_cmp (op_eqD hr.units) ro_eq (pd_callB call_len rc_len rfl Γ.b_len rfl (pda_cons (pd_varF 0) pda_nil)) (pd_varF 1) (nomark _)) (pd_one (pd_callB (cr_all rfl) rc_all rfl Γ.b_all rfl (pda_cons (pd_fz (pn_lc (own := [("state", 2)]) (g := (gName 2)) rfl sc.nd (pdi_seq (pd_varF 0)) (blkOk_by (by kernel_rfl)) rfl (fun _ _ _ _ _ => (pdg_name 2 sc.nd rfl (by first | exact Or.inl rfl | exact Or.inr rfl))) (by decide) (fun _ _ _ _ _ => pdts_nil) (fun _ _ _ _ _ => (pd_call dm_is_below (ok_is_below Γ) (hr.mono (by decide)) rfl Γ.m_is_below Γ.F_is_below.kp (b_is_below Γ.F_is_below) takes0 (pda_cons (pd_varF 2) (pda_cons (pd_varF 1) pda_nil)))))) pda_nil)))))))
  unfold dc_is_table at h
  exact ⟨_, der.run, body_of2 h der.mono⟩
theorem sc_check_tables : FnScope ["value", "states", "at", "table"] ["value"] (defScope s_check_tables) := ⟨rfl, rfl, rfl, by decide +kernel, rfl, by decide +kernel, by decide +kernel⟩
theorem ok_check_tables (Γ : G K mg C_Machine) : FnOk P w K mg base (L2.CX P w) 5 Γ.f_check_tables Γ.fd_check_tables ["value"] (spD K 1 (dc_check_tables C_Machine)) := by
  have sc := sc_check_tables
  refine FunD.ok Γ.F_check_tables sc (fun _ _ _ _ h => h.1) fun cdv A outer s H vs Q E hr h => ?_
  have tk : Takes (cxOf (L2.CX P w) P w K mg base ["value", "states", "at", "table"] "check_tables" (defScope s_check_tables) Γ.f_check_tables cdv A outer s H E) (fun cls d _ H => E cls d H) := takes_of rfl rfl rfl rfl
  have hp : PassesOwn (model P w) (cxOf (L2.CX P w) P w K mg base ["value", "states", "at", "table"] "check_tables" (defScope s_check_tables) Γ.f_check_tables cdv A outer s H E).A (cxOf (L2.CX P w) P w K mg base ["value", "states", "at", "table"] "check_tables" (defScope s_check_tables) Γ.f_check_tables cdv A outer s H E).env (cxOf (L2.CX P w) P w K mg base ["value", "states", "at", "table"] "check_tables" (defScope s_check_tables) Γ.f_check_tables cdv A outer s H E).xe := passes_of rfl
  have der : PDSs (cxOf (L2.CX P w) P w K mg base ["value", "states", "at", "table"] "check_tables" (defScope s_check_tables) Γ.f_check_tables cdv A outer s H E) (fun cls d _ H => E cls d H) (defBody s_check_tables) (ds_check_tables C_Machine) :=
    (pdss_cons (pds_if (pdt_w (pdw_or (pdt_not (pdt_val (pd_call dm_is_sequence (ok_is_sequence Γ) (hr.mono (by decide)) rfl Γ.m_is_sequence Γ.F_is_sequence.kp (b_is_sequence Γ.F_is_sequence) tk (pda_cons (pd_varF 0) pda_nil)))) (pdw_or1 (pdt_not (pdt_chain op_le ro_boo0 op_le ro_boo0 pd_int (pd_callB call_len rc_len rfl Γ.b_len rfl (pda_cons (pd_varF 0) pda_nil)) (pd_gint rfl Γ.g_MOST_DEEDS.1 Γ.g_MOST_DEEDS.2)))))) (pdss_one pds_never) pdss_nil) (pdss_cons (pds_set (i := 1) sc.nd rfl (by first | exact Or.inl rfl | exact Or.inr rfl) (pd_ifExp (pdt_val (pd_call dm_is_sequence (ok_is_sequence Γ) (hr.mono (by decide)) rfl Γ.m_is_sequence Γ.F_is_sequence.kp (b_is_sequence Γ.F_is_sequence) tk (pda_cons (pd_ix (pd_varF 0) pd_int (fun _ _ => rfl)) pda_nil))) (pd_callB call_len rc_len rfl Γ.b_len rfl (pda_cons (pd_ix (pd_varF 0) pd_int (fun _ _ => rfl)) pda_nil)) pd_int)) (pdss_cons (pds_for hp rfl (pdi_enum rfl Γ.b_enumerate (pda_cons (pd_varF 0) pda_nil)) (pdg_tup rfl (pdgs_cons (pdg_name 2 sc.nd rfl (by first | exact Or.inl rfl | exact Or.inr rfl)) (pdgs_cons (pdg_name 3 sc.nd rfl (by first | exact Or.inl rfl | exact Or.inr rfl)) pdgs_nil))) (pdss_one (pds_if (pdt_w (pdw_or (pdt_not (pdt_chain op_le ro_boo0 op_le ro_boo0 pd_int (pd_varF 1) (pd_gint rfl Γ.g_MOST_STATES.1 Γ.g_MOST_STATES.2))) (pdw_or1 (pdt_not (pdt_val (pd_call dm_is_table (ok_is_table Γ) (hr.mono (by decide)) rfl Γ.m_is_table Γ.F_is_table.kp (b_is_table Γ.F_is_table) tk (pda_cons (pd_varF 3) (pda_cons (pd_varF 1) pda_nil)))))))) (pdss_one pds_never) pdss_nil))) (pdss_one (pds_ret (pd_callTy call_tuple_of rc_tuple rfl Γ.b_tuple rfl (pda_cons (pd_fz (pn_lc (own := [("table", 3)]) (g := (gName 3)) rfl sc.nd (pdi_seq (pd_varF 0)) (blkOk_by (by kernel_rfl)) rfl (fun _ _ _ _ _ => (pdg_name 3 sc.nd rfl (by first | exact Or.inl rfl | exact Or.inr rfl))) (by decide) (fun _ _ _ _ _ => pdts_nil) (fun _ _ _ _ _ => (pd_callTy call_tuple_of rc_tuple rfl Γ.b_tuple rfl (pda_cons (pd_varF 3) pda_nil))))) pda_nil)))))))
  unfold dc_check_tables at h
  exact ⟨_, der.run, body_of2 h der.mono⟩
theorem sc_need_state : FnScope ["machine", "state"] ["machine", "state"] (defScope s_need_state) := ⟨rfl, rfl, rfl, by decide +kernel, rfl, by decide +kernel, by decide +kernel⟩
theorem ok_need_state (Γ : G K mg C_Machine) : FnOk P w K mg base (L2.CX P w) 4 Γ.f_need_state Γ.fd_need_state ["machine", "state"] (spD K 2 (dc_need_state C_Machine)) := by
  have sc := sc_need_state
  refine FunD.ok Γ.F_need_state sc (fun _ _ _ _ h => h.1) fun cdv A outer s H vs Q E hr h => ?_
  have tk : Takes (cxOf (L2.CX P w) P w K mg base ["machine", "state"] "need_state" (defScope s_need_state) Γ.f_need_state cdv A outer s H E) (fun cls d _ H => E cls d H) := takes_of rfl rfl rfl rfl
  have hp : PassesOwn (model P w) (cxOf (L2.CX P w) P w K mg base ["machine", "state"] "need_state" (defScope s_need_state) Γ.f_need_state cdv A outer s H E).A (cxOf (L2.CX P w) P w K mg base ["machine", "state"] "need_state" (defScope s_need_state) Γ.f_need_state cdv A outer s H E).env (cxOf (L2.CX P w) P w K mg base ["machine", "state"] "need_state" (defScope s_need_state) Γ.f_need_state cdv A outer s H E).xe := passes_of rfl
  have der : PDSs (cxOf (L2.CX P w) P w K mg base ["machine", "state"] "need_state" (defScope s_need_state) Γ.f_need_state cdv A outer s H E) (fun cls d _ H => E cls d H) (defBody s_need_state) (ds_need_state C_Machine) :=
    (pdss_cons (pds_if (pdt_not (pdt_val (pd_call dm_is_below (ok_is_below Γ) (hr.mono (by decide)) rfl Γ.m_is_below Γ.F_is_below.kp (b_is_below Γ.F_is_below) tk (pda_cons (pd_varF 1) (pda_cons (pd_attr Γ.cls_Machine Γ.na_Machine_states rfl (by decide +kernel) (pd_varF 0)) pda_nil))))) (pdss_one pds_never) pdss_nil) (pdss_one (pds_ret (pd_varF 1))))
  unfold dc_need_state at h
  exact ⟨_, der.run, body_of2 h der.mono⟩
theorem sc_reached : FnScope ["machine", "state", "found", "waiting", "here", "table"] ["machine", "state"] (defScope s_reached) := ⟨rfl, rfl, rfl, by decide +kernel, rfl, by decide +kernel, by decide +kernel⟩
theorem ok_reached (Γ : G K mg C_Machine) : FnOk P w K mg base (L2.CX P w) 5 Γ.f_reached Γ.fd_reached ["machine", "state"] (spD K 2 (dc_reached C_Machine)) := by
  have sc := sc_reached
  refine FunD.ok Γ.F_reached sc (fun _ _ _ _ h => h.1) fun cdv A outer s H vs Q E hr h => ?_
  have tk : Takes (cxOf (L2.CX P w) P w K mg base ["machine", "state", "found", "waiting", "here", "table"] "reached" (defScope s_reached) Γ.f_reached cdv A outer s H E) (fun cls d _ H => E cls d H) := takes_of rfl rfl rfl rfl
  have hp : PassesOwn (model P w) (cxOf (L2.CX P w) P w K mg base ["machine", "state", "found", "waiting", "here", "table"] "reached" (defScope s_reached) Γ.f_reached cdv A outer s H E).A (cxOf (L2.CX P w) P w K mg base ["machine", "state", "found", "waiting", "here", "table"] "reached" (defScope s_reached) Γ.f_reached cdv A outer s H E).env (cxOf (L2.CX P w) P w K mg base ["machine", "state", "found", "waiting", "here", "table"] "reached" (defScope s_reached) Γ.f_reached cdv A outer s H E).xe := passes_of rfl
  have der : PDSs (cxOf (L2.CX P w) P w K mg base ["machine", "state", "found", "waiting", "here", "table"] "reached" (defScope s_reached) Γ.f_reached cdv A outer s H E) (fun cls d _ H => E cls d H) (defBody s_reached) (ds_reached C_Machine) :=
    (pdss_cons (pds_own (i := 2) sc.nd rfl (by first | exact Or.inl rfl | exact Or.inr rfl) (pn_disp1K (pd_call dm_need_state (ok_need_state Γ) (hr.mono (by decide)) rfl Γ.m_need_state Γ.F_need_state.kp (b_need_state Γ.F_need_state) tk (pda_cons (pd_varF 0) (pda_cons (pd_varF 1) pda_nil))) pd_bool)) (pdss_cons (pds_own (i := 3) sc.nd rfl (by first | exact Or.inl rfl | exact Or.inr rfl) (pn_lst (pda_cons (pd_varF 1) pda_nil))) (pdss_cons (pds_while hp (pdt_cmp op_gt ro_boo0 (pd_lenS 3 rfl Γ.b_len) pd_int (nomark _)) (pdss_cons (pds_set (i := 4) sc.nd rfl (by first | exact Or.inl rfl | exact Or.inr rfl) (pd_pop 3)) (pdss_one (pds_for hp rfl (pdi_seq (pd_attr Γ.cls_Machine Γ.na_Machine_tables rfl (by decide +kernel) (pd_varF 0))) (pdg_name 5 sc.nd rfl (by first | exact Or.inl rfl | exact Or.inr rfl)) (pdss_one (pds_if (pdt_notinS 2 hr (pd_ix (pd_varF 5) (pd_varF 4) (fun _ _ => rfl))) (pdss_cons (pds_asg pd_bool (pdg_sub 2 hr (pd_ix (pd_varF 5) (pd_varF 4) (fun _ _ => rfl)))) (pdss_one (pds_app 3 (pd_ix (pd_varF 5) (pd_varF 4) (fun _ _ => rfl))))) pdss_nil)))))) (pdss_one (pds_ret (pd_callTy call_tuple_of rc_tuple rfl Γ.b_tuple rfl (pda_cons (pd_callB cr_sortedI rc_sortI rfl Γ.b_sorted rfl (pda_cons (pd_callTy (call_listD rfl) rc_listD rfl Γ.b_list rfl (pda_cons (pd_varF 2) pda_nil)) pda_nil)) pda_nil)))))))
  unfold dc_reached at h
  exact ⟨_, der.run, body_of2 h der.mono⟩
theorem sc_is_within_loss : FnScope ["value"] ["value"] (defScope s_is_within_loss) := ⟨rfl, rfl, rfl, by decide +kernel, rfl, by decide +kernel, by decide +kernel⟩
theorem ok_is_within_loss (Γ : G K mg C_Machine) : FnOk P w K mg base (L2.CX P w) 3 Γ.f_is_within_loss Γ.fd_is_within_loss ["value"] (spD K 1 (dc_is_within_loss C_Machine)) := by
  have sc := sc_is_within_loss
  refine FunD.ok Γ.F_is_within_loss sc (fun _ _ _ _ h => h.1) fun cdv A outer s H vs Q E hr h => ?_
  have tk : Takes (cxOf (L2.CX P w) P w K mg base ["value"] "is_within_loss" (defScope s_is_within_loss) Γ.f_is_within_loss cdv A outer s H E) (fun cls d _ H => E cls d H) := takes_of rfl rfl rfl rfl
  have hp : PassesOwn (model P w) (cxOf (L2.CX P w) P w K mg base ["value"] "is_within_loss" (defScope s_is_within_loss) Γ.f_is_within_loss cdv A outer s H E).A (cxOf (L2.CX P w) P w K mg base ["value"] "is_within_loss" (defScope s_is_within_loss) Γ.f_is_within_loss cdv A outer s H E).env (cxOf (L2.CX P w) P w K mg base ["value"] "is_within_loss" (defScope s_is_within_loss) Γ.f_is_within_loss cdv A outer s H E).xe := passes_of rfl
  have der : PDSs (cxOf (L2.CX P w) P w K mg base ["value"] "is_within_loss" (defScope s_is_within_loss) Γ.f_is_within_loss cdv A outer s H E) (fun cls d _ H => E cls d H) (defBody s_is_within_loss) (ds_is_within_loss C_Machine) :=
    (pdss_one (pds_ret (pd_call dm_is_within (ok_is_within Γ) (hr.mono (by decide)) rfl Γ.m_is_within Γ.F_is_within.kp (b_is_within Γ.F_is_within) tk (pda_cons (pd_varF 0) (pda_cons pd_int (pda_cons (pd_gint rfl Γ.g_MOST_LOSS.1 Γ.g_MOST_LOSS.2) pda_nil))))))
  unfold dc_is_within_loss at h
  exact ⟨_, der.run, body_of2 h der.mono⟩
theorem sc_need_loss : FnScope ["value"] ["value"] (defScope s_need_loss) := ⟨rfl, rfl, rfl, by decide +kernel, rfl, by decide +kernel, by decide +kernel⟩
theorem ok_need_loss (Γ : G K mg C_Machine) : FnOk P w K mg base (L2.CX P w) 4 Γ.f_need_loss Γ.fd_need_loss ["value"] (spD K 1 (dc_need_loss C_Machine)) := by
  have sc := sc_need_loss
  refine FunD.ok Γ.F_need_loss sc (fun _ _ _ _ h => h.1) fun cdv A outer s H vs Q E hr h => ?_
  have tk : Takes (cxOf (L2.CX P w) P w K mg base ["value"] "need_loss" (defScope s_need_loss) Γ.f_need_loss cdv A outer s H E) (fun cls d _ H => E cls d H) := takes_of rfl rfl rfl rfl
  have hp : PassesOwn (model P w) (cxOf (L2.CX P w) P w K mg base ["value"] "need_loss" (defScope s_need_loss) Γ.f_need_loss cdv A outer s H E).A (cxOf (L2.CX P w) P w K mg base ["value"] "need_loss" (defScope s_need_loss) Γ.f_need_loss cdv A outer s H E).env (cxOf (L2.CX P w) P w K mg base ["value"] "need_loss" (defScope s_need_loss) Γ.f_need_loss cdv A outer s H E).xe := passes_of rfl
  have der : PDSs (cxOf (L2.CX P w) P w K mg base ["value"] "need_loss" (defScope s_need_loss) Γ.f_need_loss cdv A outer s H E) (fun cls d _ H => E cls d H) (defBody s_need_loss) (ds_need_loss C_Machine) :=
    (pdss_cons (pds_if (pdt_not (pdt_val (pd_call dm_is_within_loss (ok_is_within_loss Γ) (hr.mono (by decide)) rfl Γ.m_is_within_loss Γ.F_is_within_loss.kp (b_is_within_loss Γ.F_is_within_loss) tk (pda_cons (pd_varF 0) pda_nil)))) (pdss_one pds_never) pdss_nil) (pdss_one (pds_ret (pd_varF 0))))
  unfold dc_need_loss at h
  exact ⟨_, der.run, body_of2 h der.mono⟩
theorem sc_need_modulus : FnScope ["value"] ["value"] (defScope s_need_modulus) := ⟨rfl, rfl, rfl, by decide +kernel, rfl, by decide +kernel, by decide +kernel⟩
theorem ok_need_modulus (Γ : G K mg C_Machine) : FnOk P w K mg base (L2.CX P w) 3 Γ.f_need_modulus Γ.fd_need_modulus ["value"] (spD K 1 (dc_need_modulus C_Machine)) := by
  have sc := sc_need_modulus
  refine FunD.ok Γ.F_need_modulus sc (fun _ _ _ _ h => h.1) fun cdv A outer s H vs Q E hr h => ?_
  have tk : Takes (cxOf (L2.CX P w) P w K mg base ["value"] "need_modulus" (defScope s_need_modulus) Γ.f_need_modulus cdv A outer s H E) (fun cls d _ H => E cls d H) := takes_of rfl rfl rfl rfl
  have hp : PassesOwn (model P w) (cxOf (L2.CX P w) P w K mg base ["value"] "need_modulus" (defScope s_need_modulus) Γ.f_need_modulus cdv A outer s H E).A (cxOf (L2.CX P w) P w K mg base ["value"] "need_modulus" (defScope s_need_modulus) Γ.f_need_modulus cdv A outer s H E).env (cxOf (L2.CX P w) P w K mg base ["value"] "need_modulus" (defScope s_need_modulus) Γ.f_need_modulus cdv A outer s H E).xe := passes_of rfl
  have der : PDSs (cxOf (L2.CX P w) P w K mg base ["value"] "need_modulus" (defScope s_need_modulus) Γ.f_need_modulus cdv A outer s H E) (fun cls d _ H => E cls d H) (defBody s_need_modulus) (ds_need_modulus C_Machine) :=
    (pdss_cons (pds_if (pdt_not (pdt_val (pd_call dm_is_within (ok_is_within Γ) (hr.mono (by decide)) rfl Γ.m_is_within Γ.F_is_within.kp (b_is_within Γ.F_is_within) tk (pda_cons (pd_varF 0) (pda_cons pd_int (pda_cons (pd_gint rfl Γ.g_MOST_MODULUS.1 Γ.g_MOST_MODULUS.2) pda_nil)))))) (pdss_one pds_never) pdss_nil) (pdss_one (pds_ret (pd_varF 0))))
  unfold dc_need_modulus at h
  exact ⟨_, der.run, body_of2 h der.mono⟩
theorem sc_longer_doings : FnScope ["machine", "layer", "found", "images", "row", "deed", "table", "after", "state"] ["machine", "layer"] (defScope s_longer_doings) := ⟨rfl, rfl, rfl, by decide +kernel, rfl, by decide +kernel, by decide +kernel⟩
theorem ok_longer_doings (Γ : G K mg C_Machine) : FnOk P w K mg base (L2.CX P w) 1 Γ.f_longer_doings Γ.fd_longer_doings ["machine", "layer"] (spD K 2 (dc_longer_doings C_Machine)) := by
  have sc := sc_longer_doings
  refine FunD.ok Γ.F_longer_doings sc (fun _ _ _ _ h => h.1) fun cdv A outer s H vs Q E hr h => ?_
  have tk : Takes (cxOf (L2.CX P w) P w K mg base ["machine", "layer", "found", "images", "row", "deed", "table", "after", "state"] "longer_doings" (defScope s_longer_doings) Γ.f_longer_doings cdv A outer s H E) (fun cls d _ H => E cls d H) := takes_of rfl rfl rfl rfl
  have hp : PassesOwn (model P w) (cxOf (L2.CX P w) P w K mg base ["machine", "layer", "found", "images", "row", "deed", "table", "after", "state"] "longer_doings" (defScope s_longer_doings) Γ.f_longer_doings cdv A outer s H E).A (cxOf (L2.CX P w) P w K mg base ["machine", "layer", "found", "images", "row", "deed", "table", "after", "state"] "longer_doings" (defScope s_longer_doings) Γ.f_longer_doings cdv A outer s H E).env (cxOf (L2.CX P w) P w K mg base ["machine", "layer", "found", "images", "row", "deed", "table", "after", "state"] "longer_doings" (defScope s_longer_doings) Γ.f_longer_doings cdv A outer s H E).xe := passes_of rfl
  have der : PDSs (cxOf (L2.CX P w) P w K mg base ["machine", "layer", "found", "images", "row", "deed", "table", "after", "state"] "longer_doings" (defScope s_longer_doings) Γ.f_longer_doings cdv A outer s H E) (fun cls d _ H => E cls d H) (defBody s_longer_doings) (ds_longer_doings C_Machine) :=
    (pdss_cons (pds_own (i := 2) sc.nd rfl (by first | exact Or.inl rfl | exact Or.inr rfl) pn_dnewT) (pdss_cons (pds_forL hp rfl (pdil_items 1) (pdg_tup rfl (pdgs_cons (pdg_name 3 sc.nd rfl (by first | exact Or.inl rfl | exact Or.inr rfl)) (pdgs_cons (pdg_name 4 sc.nd rfl (by first | exact Or.inl rfl | exact Or.inr rfl)) pdgs_nil))) (pdss_one (pds_for hp rfl (pdi_enum rfl Γ.b_enumerate (pda_cons (pd_attr Γ.cls_Machine Γ.na_Machine_tables rfl (by decide +kernel) (pd_varF 0)) pda_nil)) (pdg_tup rfl (pdgs_cons (pdg_name 5 sc.nd rfl (by first | exact Or.inl rfl | exact Or.inr rfl)) (pdgs_cons (pdg_name 6 sc.nd rfl (by first | exact Or.inl rfl | exact Or.inr rfl)) pdgs_nil))) (pdss_cons (pds_set (i := 7) sc.nd rfl (by first | exact Or.inl rfl | exact Or.inr rfl) (pd_callTy call_tuple_of rc_tuple rfl Γ.b_tuple rfl (pda_cons (pd_fz (pn_lc (own := [("state", 8)]) (g := (gName 8)) rfl sc.nd (pdi_seq (pd_varF 3)) (blkOk_by (by kernel_rfl)) rfl (fun _ _ _ _ _ => (pdg_name 8 sc.nd rfl (by first | exact Or.inl rfl | exact Or.inr rfl))) (by decide) (fun _ _ _ _ _ => pdts_nil) (fun _ _ _ _ _ => (pd_ix (pd_varF 6) (pd_varF 8) (fun _ _ => rfl))))) pda_nil))) (pdss_one (pds_if (pdt_notinS 2 hr (pd_varF 7)) (pdss_one (pds_asg (pd_op op_addAll ro_add (pd_varF 4) (pd_tup (pda_cons (pd_varF 5) pda_nil))) (pdg_sub 2 hr (pd_varF 7)))) pdss_nil)))))) (pdss_one (pds_ret (pd_varF 2)))))
  unfold dc_longer_doings at h
  exact ⟨_, der.run, body_of2 h der.mono⟩
theorem sc_turned_states : FnScope ["lot", "images", "ends", "found", "state", "here", "_", "image"] ["lot", "images"] (defScope s_turned_states) := ⟨rfl, rfl, rfl, by decide +kernel, rfl, by decide +kernel, by decide +kernel⟩
theorem ok_turned_states (Γ : G K mg C_Machine) : FnOk P w K mg base (L2.CX P w) 1 Γ.f_turned_states Γ.fd_turned_states ["lot", "images"] (spD K 2 (dc_turned_states C_Machine)) := by
  have sc := sc_turned_states
  refine FunD.ok Γ.F_turned_states sc (fun _ _ _ _ h => h.1) fun cdv A outer s H vs Q E hr h => ?_
  have tk : Takes (cxOf (L2.CX P w) P w K mg base ["lot", "images", "ends", "found", "state", "here", "_", "image"] "turned_states" (defScope s_turned_states) Γ.f_turned_states cdv A outer s H E) (fun cls d _ H => E cls d H) := takes_of rfl rfl rfl rfl
  have hp : PassesOwn (model P w) (cxOf (L2.CX P w) P w K mg base ["lot", "images", "ends", "found", "state", "here", "_", "image"] "turned_states" (defScope s_turned_states) Γ.f_turned_states cdv A outer s H E).A (cxOf (L2.CX P w) P w K mg base ["lot", "images", "ends", "found", "state", "here", "_", "image"] "turned_states" (defScope s_turned_states) Γ.f_turned_states cdv A outer s H E).env (cxOf (L2.CX P w) P w K mg base ["lot", "images", "ends", "found", "state", "here", "_", "image"] "turned_states" (defScope s_turned_states) Γ.f_turned_states cdv A outer s H E).xe := passes_of rfl
  have der : PDSs (cxOf (L2.CX P w) P w K mg base ["lot", "images", "ends", "found", "state", "here", "_", "image"] "turned_states" (defScope s_turned_states) Γ.f_turned_states cdv A outer s H E) (fun cls d _ H => E cls d H) (defBody s_turned_states) (ds_turned_states C_Machine) :=
    (pdss_cons (pds_ownDc (own := [("state", 4), ("image", 7)]) (g := (gTup K 2 (gCons (gName 4) (gCons (gName 7) gNil)))) rfl sc.nd rfl rfl (sw_trueD rfl rfl rfl (by kernel_rfl)) (pdi_zip rfl Γ.b_zip (pda_cons (pd_varF 0) (pda_cons (pd_varF 1) pda_nil))) (blkOk_by (by kernel_rfl)) rfl (fun _ _ _ _ _ => (pdg_tup rfl (pdgs_cons (pdg_name 4 sc.nd rfl (by first | exact Or.inl rfl | exact Or.inr rfl)) (pdgs_cons (pdg_name 7 sc.nd rfl (by first | exact Or.inl rfl | exact Or.inr rfl)) pdgs_nil)))) (by decide) (fun _ _ _ _ _ => pdts_nil) (fun _ _ _ _ _ => (pd_varF 4)) (fun _ _ _ _ _ => (pd_varF 7))) (pdss_cons (pds_own (i := 3) sc.nd rfl (by first | exact Or.inl rfl | exact Or.inr rfl) (pn_lst pda_nil)) (pdss_cons (pds_for hp rfl (pdi_seq (pd_varF 0)) (pdg_name 4 sc.nd rfl (by first | exact Or.inl rfl | exact Or.inr rfl)) (pdss_cons (pds_set (i := 5) sc.nd rfl (by first | exact Or.inl rfl | exact Or.inr rfl) (pd_get hr (pd_varF 2) (pd_varF 4) (fun _ _ => rfl))) (pdss_cons (pds_for hp rfl (pdi_seq (pd_varF 0)) (pdg_name 6 sc.nd rfl (by first | exact Or.inl rfl | exact Or.inr rfl)) (pdss_one (pds_if (pdt_cmp (op_neD hr.units) ro_ne (pd_varF 5) (pd_varF 4) (nomark _)) (pdss_one (pds_set (i := 5) sc.nd rfl (by first | exact Or.inl rfl | exact Or.inr rfl) (pd_get hr (pd_varF 2) (pd_varF 5) (fun _ _ => rfl)))) pdss_nil))) (pdss_one (pds_if (pdt_w (pdw_and (pdt_cmp (op_eqD hr.units) ro_eq (pd_varF 5) (pd_varF 4) (nomark _)) (pdw_and1 (pdt_cmp (op_neD hr.units) ro_ne (pd_get hr (pd_varF 2) (pd_varF 4) (fun _ _ => rfl)) (pd_varF 4) (nomark _))))) (pdss_one (pds_app 3 (pd_varF 4))) pdss_nil))))) (pdss_one (pds_ret (pd_varF 3))))))
  unfold dc_turned_states at h
  exact ⟨_, der.run, body_of2 h der.mono⟩
theorem sc_turning_lengths : FnScope ["machine", "first", "loss", "lot", "layer", "found", "length", "images"] ["machine", "first", "loss"] (defScope s_turning_lengths) := ⟨rfl, rfl, rfl, by decide +kernel, rfl, by decide +kernel, by decide +kernel⟩
theorem ok_turning_lengths (Γ : G K mg C_Machine) : FnOk P w K mg base (L2.CX P w) 6 Γ.f_turning_lengths Γ.fd_turning_lengths ["machine", "first", "loss"] (spD K 3 (dc_turning_lengths C_Machine)) := by
  have sc := sc_turning_lengths
  refine FunD.ok Γ.F_turning_lengths sc (fun _ _ _ _ h => h.1) fun cdv A outer s H vs Q E hr h => ?_
  have tk : Takes (cxOf (L2.CX P w) P w K mg base ["machine", "first", "loss", "lot", "layer", "found", "length", "images"] "turning_lengths" (defScope s_turning_lengths) Γ.f_turning_lengths cdv A outer s H E) (fun cls d _ H => E cls d H) := takes_of rfl rfl rfl rfl
  have hp : PassesOwn (model P w) (cxOf (L2.CX P w) P w K mg base ["machine", "first", "loss", "lot", "layer", "found", "length", "images"] "turning_lengths" (defScope s_turning_lengths) Γ.f_turning_lengths cdv A outer s H E).A (cxOf (L2.CX P w) P w K mg base ["machine", "first", "loss", "lot", "layer", "found", "length", "images"] "turning_lengths" (defScope s_turning_lengths) Γ.f_turning_lengths cdv A outer s H E).env (cxOf (L2.CX P w) P w K mg base ["machine", "first", "loss", "lot", "layer", "found", "length", "images"] "turning_lengths" (defScope s_turning_lengths) Γ.f_turning_lengths cdv A outer s H E).xe := passes_of rfl
  have der : PDSs (cxOf (L2.CX P w) P w K mg base ["machine", "first", "loss", "lot", "layer", "found", "length", "images"] "turning_lengths" (defScope s_turning_lengths) Γ.f_turning_lengths cdv A outer s H E) (fun cls d _ H => E cls d H) (defBody s_turning_lengths) (ds_turning_lengths C_Machine) :=
    (pdss_cons (pds_expr (pd_call dm_need_state (ok_need_state Γ) (hr.mono (by decide)) rfl Γ.m_need_state Γ.F_need_state.kp (b_need_state Γ.F_need_state) tk (pda_cons (pd_varF 0) (pda_cons (pd_varF 1) pda_nil)))) (pdss_cons (pds_expr (pd_call dm_need_loss (ok_need_loss Γ) (hr.mono (by decide)) rfl Γ.m_need_loss Γ.F_need_loss.kp (b_need_loss Γ.F_need_loss) tk (pda_cons (pd_varF 2) pda_nil))) (pdss_cons (pds_set (i := 3) sc.nd rfl (by first | exact Or.inl rfl | exact Or.inr rfl) (pd_call dm_reached (ok_reached Γ) (hr.mono (by decide)) rfl Γ.m_reached Γ.F_reached.kp (b_reached Γ.F_reached) tk (pda_cons (pd_varF 0) (pda_cons (pd_varF 1) pda_nil)))) (pdss_cons (pds_own (i := 4) sc.nd rfl (by first | exact Or.inl rfl | exact Or.inr rfl) (pn_disp1T hr (pd_varF 3) (pd_tup pda_nil))) (pdss_cons (pds_own (i := 5) sc.nd rfl (by first | exact Or.inl rfl | exact Or.inr rfl) (pn_lst pda_nil)) (pdss_cons (pds_for hp rfl (pdi_r2 rfl Γ.b_range (pda_cons pd_int (pda_cons (pd_op op_addAll ro_add (pd_varF 2) pd_int) pda_nil))) (pdg_name 6 sc.nd rfl (by first | exact Or.inl rfl | exact Or.inr rfl)) (pdss_cons (pds_set (i := 4) sc.nd rfl (by first | exact Or.inl rfl | exact Or.inr rfl) (pd_call dm_longer_doings (ok_longer_doings Γ) (hr.mono (by decide)) rfl Γ.m_longer_doings Γ.F_longer_doings.kp (b_longer_doings Γ.F_longer_doings) tk (pda_cons (pd_varF 0) (pda_cons (pd_varF 4) pda_nil)))) (pdss_one (pds_if (pdt_val (pd_callB (cr_any rfl) rc_any rfl Γ.b_any rfl (pda_cons (pd_fz (pn_lcL (own := [("images", 7)]) (g := (gName 7)) rfl sc.nd (pdil_keys 4) (blkOk_by (by kernel_rfl)) rfl (fun _ _ _ _ _ => (pdg_name 7 sc.nd rfl (by first | exact Or.inl rfl | exact Or.inr rfl))) (by decide) (fun _ _ _ _ _ => pdts_nil) (fun _ _ _ _ _ => (pd_cmp op_gt ro_boo0 (pd_callB call_len rc_len rfl Γ.b_len rfl (pda_cons (pd_call dm_turned_states (ok_turned_states Γ) (hr.mono (by decide)) rfl Γ.m_turned_states Γ.F_turned_states.kp (b_turned_states Γ.F_turned_states) takes0 (pda_cons (pd_varF 3) (pda_cons (pd_varF 7) pda_nil))) pda_nil)) pd_int (nomark _))))) pda_nil))) (pdss_one (pds_app 5 (pd_varF 6))) pdss_nil)))) (pdss_one (pds_ret (pd_callTy call_tuple_of rc_tuple rfl Γ.b_tuple rfl (pda_cons (pd_varF 5) pda_nil))))))))))
  unfold dc_turning_lengths at h
  exact ⟨_, der.run, body_of2 h der.mono⟩
theorem sc_first_rows : FnScope ["machine", "first", "found", "waiting", "at", "here", "deed", "table"] ["machine", "first"] (defScope s_first_rows) := ⟨rfl, rfl, rfl, by decide +kernel, rfl, by decide +kernel, by decide +kernel⟩
theorem ok_first_rows (Γ : G K mg C_Machine) : FnOk P w K mg base (L2.CX P w) 1 Γ.f_first_rows Γ.fd_first_rows ["machine", "first"] (spD K 2 (dc_first_rows C_Machine)) := by
  have sc := sc_first_rows
  refine FunD.ok Γ.F_first_rows sc (fun _ _ _ _ h => h.1) fun cdv A outer s H vs Q E hr h => ?_
  have tk : Takes (cxOf (L2.CX P w) P w K mg base ["machine", "first", "found", "waiting", "at", "here", "deed", "table"] "first_rows" (defScope s_first_rows) Γ.f_first_rows cdv A outer s H E) (fun cls d _ H => E cls d H) := takes_of rfl rfl rfl rfl
  have hp : PassesOwn (model P w) (cxOf (L2.CX P w) P w K mg base ["machine", "first", "found", "waiting", "at", "here", "deed", "table"] "first_rows" (defScope s_first_rows) Γ.f_first_rows cdv A outer s H E).A (cxOf (L2.CX P w) P w K mg base ["machine", "first", "found", "waiting", "at", "here", "deed", "table"] "first_rows" (defScope s_first_rows) Γ.f_first_rows cdv A outer s H E).env (cxOf (L2.CX P w) P w K mg base ["machine", "first", "found", "waiting", "at", "here", "deed", "table"] "first_rows" (defScope s_first_rows) Γ.f_first_rows cdv A outer s H E).xe := passes_of rfl
  have der : PDSs (cxOf (L2.CX P w) P w K mg base ["machine", "first", "found", "waiting", "at", "here", "deed", "table"] "first_rows" (defScope s_first_rows) Γ.f_first_rows cdv A outer s H E) (fun cls d _ H => E cls d H) (defBody s_first_rows) (ds_first_rows C_Machine) :=
    (pdss_cons (pds_own (i := 2) sc.nd rfl (by first | exact Or.inl rfl | exact Or.inr rfl) (pn_disp1K (pd_varF 1) (pd_tup pda_nil))) (pdss_cons (pds_own (i := 3) sc.nd rfl (by first | exact Or.inl rfl | exact Or.inr rfl) (pn_lst (pda_cons (pd_varF 1) pda_nil))) (pdss_cons (pds_set (i := 4) sc.nd rfl (by first | exact Or.inl rfl | exact Or.inr rfl) pd_int) (pdss_cons (pds_while hp (pdt_cmp op_lt ro_boo0 (pd_varF 4) (pd_lenS 3 rfl Γ.b_len) (nomark _)) (pdss_cons (pds_set (i := 5) sc.nd rfl (by first | exact Or.inl rfl | exact Or.inr rfl) (pd_ixS 3 (pd_varF 4) (fun _ _ => rfl))) (pdss_cons (pds_aug (i := 4) sc.nd rfl (by first | exact Or.inl rfl | exact Or.inr rfl) iop_add ro_int0 pd_int) (pdss_one (pds_for hp rfl (pdi_enum rfl Γ.b_enumerate (pda_cons (pd_attr Γ.cls_Machine Γ.na_Machine_tables rfl (by decide +kernel) (pd_varF 0)) pda_nil)) (pdg_tup rfl (pdgs_cons (pdg_name 6 sc.nd rfl (by first | exact Or.inl rfl | exact Or.inr rfl)) (pdgs_cons (pdg_name 7 sc.nd rfl (by first | exact Or.inl rfl | exact Or.inr rfl)) pdgs_nil))) (pdss_one (pds_if (pdt_notinS 2 hr (pd_ix (pd_varF 7) (pd_varF 5) (fun _ _ => rfl))) (pdss_cons (pds_asg (pd_op op_addAll ro_add (pd_getS 2 hr (pd_varF 5) (fun _ _ => rfl)) (pd_tup (pda_cons (pd_varF 6) pda_nil))) (pdg_sub 2 hr (pd_ix (pd_varF 7) (pd_varF 5) (fun _ _ => rfl)))) (pdss_one (pds_app 3 (pd_ix (pd_varF 7) (pd_varF 5) (fun _ _ => rfl))))) pdss_nil))))))) (pdss_one (pds_retS 2))))))
  unfold dc_first_rows at h
  exact ⟨_, der.run, body_of2 h der.mono⟩
theorem sc_row_ahead : FnScope ["machine", "first", "states", "state", "row"] ["machine", "first", "states"] (defScope s_row_ahead) := ⟨rfl, rfl, rfl, by decide +kernel, rfl, by decide +kernel, by decide +kernel⟩
theorem ok_row_ahead (Γ : G K mg C_Machine) : FnOk P w K mg base (L2.CX P w) 2 Γ.f_row_ahead Γ.fd_row_ahead ["machine", "first", "states"] (spD K 3 (dc_row_ahead C_Machine)) := by
  have sc := sc_row_ahead
  refine FunD.ok Γ.F_row_ahead sc (fun _ _ _ _ h => h.1) fun cdv A outer s H vs Q E hr h => ?_
  have tk : Takes (cxOf (L2.CX P w) P w K mg base ["machine", "first", "states", "state", "row"] "row_ahead" (defScope s_row_ahead) Γ.f_row_ahead cdv A outer s H E) (fun cls d _ H => E cls d H) := takes_of rfl rfl rfl rfl
  have hp : PassesOwn (model P w) (cxOf (L2.CX P w) P w K mg base ["machine", "first", "states", "state", "row"] "row_ahead" (defScope s_row_ahead) Γ.f_row_ahead cdv A outer s H E).A (cxOf (L2.CX P w) P w K mg base ["machine", "first", "states", "state", "row"] "row_ahead" (defScope s_row_ahead) Γ.f_row_ahead cdv A outer s H E).env (cxOf (L2.CX P w) P w K mg base ["machine", "first", "states", "state", "row"] "row_ahead" (defScope s_row_ahead) Γ.f_row_ahead cdv A outer s H E).xe := passes_of rfl
  have der : PDSs (cxOf (L2.CX P w) P w K mg base ["machine", "first", "states", "state", "row"] "row_ahead" (defScope s_row_ahead) Γ.f_row_ahead cdv A outer s H E) (fun cls d _ H => E cls d H) (defBody s_row_ahead) (ds_row_ahead C_Machine) :=
    (pdss_one (pds_ret (pd_ix (pd_fz (pn_lc (own := [("state", 3), ("row", 4)]) (g := (gTup K 2 (gCons (gName 3) (gCons (gName 4) gNil)))) rfl sc.nd (pdi_itemsN (pn_call dm_first_rows (ok_first_rows Γ) (hr.mono (by decide)) rfl Γ.m_first_rows Γ.F_first_rows.kp (b_first_rows Γ.F_first_rows) tk (pda_cons (pd_varF 0) (pda_cons (pd_varF 1) pda_nil)))) (blkOk_by (by kernel_rfl)) rfl (fun _ _ _ _ _ => (pdg_tup rfl (pdgs_cons (pdg_name 3 sc.nd rfl (by first | exact Or.inl rfl | exact Or.inr rfl)) (pdgs_cons (pdg_name 4 sc.nd rfl (by first | exact Or.inl rfl | exact Or.inr rfl)) pdgs_nil)))) (by decide) (fun _ _ _ _ _ => (pdts_one (pdt_cmp (op_inB hr) ro_in (pd_varF 3) (pd_varF 2) (by first | exact nobehind _ (by decide) (by decide) | rfl)))) (fun _ _ _ _ _ => (pd_varF 4)))) pd_int (fun _ _ => rfl))))
  unfold dc_row_ahead at h
  exact ⟨_, der.run, body_of2 h der.mono⟩
theorem sc_need_turning : FnScope ["machine", "first", "loss", "modulus"] ["machine", "first", "loss", "modulus"] (defScope s_need_turning) := ⟨rfl, rfl, rfl, by decide +kernel, rfl, by decide +kernel, by decide +kernel⟩
theorem ok_need_turning (Γ : G K mg C_Machine) : FnOk P w K mg base (L2.CX P w) 5 Γ.f_need_turning Γ.fd_need_turning ["machine", "first", "loss", "modulus"] (spD K 4 (dc_need_turning C_Machine)) := by
  have sc := sc_need_turning
  refine FunD.ok Γ.F_need_turning sc (fun _ _ _ _ h => h.1) fun cdv A outer s H vs Q E hr h => ?_
  have tk : Takes (cxOf (L2.CX P w) P w K mg base ["machine", "first", "loss", "modulus"] "need_turning" (defScope s_need_turning) Γ.f_need_turning cdv A outer s H E) (fun cls d _ H => E cls d H) := takes_of rfl rfl rfl rfl
  have hp : PassesOwn (model P w) (cxOf (L2.CX P w) P w K mg base ["machine", "first", "loss", "modulus"] "need_turning" (defScope s_need_turning) Γ.f_need_turning cdv A outer s H E).A (cxOf (L2.CX P w) P w K mg base ["machine", "first", "loss", "modulus"] "need_turning" (defScope s_need_turning) Γ.f_need_turning cdv A outer s H E).env (cxOf (L2.CX P w) P w K mg base ["machine", "first", "loss", "modulus"] "need_turning" (defScope s_need_turning) Γ.f_need_turning cdv A outer s H E).xe := passes_of rfl
  have der : PDSs (cxOf (L2.CX P w) P w K mg base ["machine", "first", "loss", "modulus"] "need_turning" (defScope s_need_turning) Γ.f_need_turning cdv A outer s H E) (fun cls d _ H => E cls d H) (defBody s_need_turning) (ds_need_turning C_Machine) :=
    (pdss_cons (pds_expr (pd_call dm_need_state (ok_need_state Γ) (hr.mono (by decide)) rfl Γ.m_need_state Γ.F_need_state.kp (b_need_state Γ.F_need_state) tk (pda_cons (pd_varF 0) (pda_cons (pd_varF 1) pda_nil)))) (pdss_cons (pds_expr (pd_call dm_need_loss (ok_need_loss Γ) (hr.mono (by decide)) rfl Γ.m_need_loss Γ.F_need_loss.kp (b_need_loss Γ.F_need_loss) tk (pda_cons (pd_varF 2) pda_nil))) (pdss_one (pds_expr (pd_call dm_need_modulus (ok_need_modulus Γ) (hr.mono (by decide)) rfl Γ.m_need_modulus Γ.F_need_modulus.kp (b_need_modulus Γ.F_need_modulus) tk (pda_cons (pd_varF 3) pda_nil))))))
  unfold dc_need_turning at h
  exact ⟨_, der.run, body_of2 h der.mono⟩
theorem sc_turn_paper : FnScope ["machine", "first", "loss", "modulus", "lot", "layer", "length", "images", "row", "states"] ["machine", "first", "loss", "modulus"] (defScope s_turn_paper) := ⟨rfl, rfl, rfl, by decide +kernel, rfl, by decide +kernel, by decide +kernel⟩
theorem ok_turn_paper (Γ : G K mg C_Machine) : FnOk P w K mg base (L2.CX P w) 6 Γ.f_turn_paper Γ.fd_turn_paper ["machine", "first", "loss", "modulus"] (spD K 4 (dc_turn_paper C_Machine)) := by
  have sc := sc_turn_paper
  refine FunD.ok Γ.F_turn_paper sc (fun _ _ _ _ h => h.1) fun cdv A outer s H vs Q E hr h => ?_
  have tk : Takes (cxOf (L2.CX P w) P w K mg base ["machine", "first", "loss", "modulus", "lot", "layer", "length", "images", "row", "states"] "turn_paper" (defScope s_turn_paper) Γ.f_turn_paper cdv A outer s H E) (fun cls d _ H => E cls d H) := takes_of rfl rfl rfl rfl
  have hp : PassesOwn (model P w) (cxOf (L2.CX P w) P w K mg base ["machine", "first", "loss", "modulus", "lot", "layer", "length", "images", "row", "states"] "turn_paper" (defScope s_turn_paper) Γ.f_turn_paper cdv A outer s H E).A (cxOf (L2.CX P w) P w K mg base ["machine", "first", "loss", "modulus", "lot", "layer", "length", "images", "row", "states"] "turn_paper" (defScope s_turn_paper) Γ.f_turn_paper cdv A outer s H E).env (cxOf (L2.CX P w) P w K mg base ["machine", "first", "loss", "modulus", "lot", "layer", "length", "images", "row", "states"] "turn_paper" (defScope s_turn_paper) Γ.f_turn_paper cdv A outer s H E).xe := passes_of rfl
  have der : PDSs (cxOf (L2.CX P w) P w K mg base ["machine", "first", "loss", "modulus", "lot", "layer", "length", "images", "row", "states"] "turn_paper" (defScope s_turn_paper) Γ.f_turn_paper cdv A outer s H E) (fun cls d _ H => E cls d H) (defBody s_turn_paper) (ds_turn_paper C_Machine) :=
    (pdss_cons (pds_expr (pd_call dm_need_turning (ok_need_turning Γ) (hr.mono (by decide)) rfl Γ.m_need_turning Γ.F_need_turning.kp (b_need_turning Γ.F_need_turning) tk (pda_cons (pd_varF 0) (pda_cons (pd_varF 1) (pda_cons (pd_varF 2) (pda_cons (pd_varF 3) pda_nil)))))) (pdss_cons (pds_set (i := 4) sc.nd rfl (by first | exact Or.inl rfl | exact Or.inr rfl) (pd_call dm_reached (ok_reached Γ) (hr.mono (by decide)) rfl Γ.m_reached Γ.F_reached.kp (b_reached Γ.F_reached) tk (pda_cons (pd_varF 0) (pda_cons (pd_varF 1) pda_nil)))) (pdss_cons (pds_own (i := 5) sc.nd rfl (by first | exact Or.inl rfl | exact Or.inr rfl) (pn_disp1T hr (pd_varF 4) (pd_tup pda_nil))) (pdss_cons (pds_for hp rfl (pdi_r2 rfl Γ.b_range (pda_cons pd_int (pda_cons (pd_op op_addAll ro_add (pd_varF 2) pd_int) pda_nil))) (pdg_name 6 sc.nd rfl (by first | exact Or.inl rfl | exact Or.inr rfl)) (pdss_cons (pds_set (i := 5) sc.nd rfl (by first | exact Or.inl rfl | exact Or.inr rfl) (pd_call dm_longer_doings (ok_longer_doings Γ) (hr.mono (by decide)) rfl Γ.m_longer_doings Γ.F_longer_doings.kp (b_longer_doings Γ.F_longer_doings) tk (pda_cons (pd_varF 0) (pda_cons (pd_varF 5) pda_nil)))) (pdss_cons (pds_if (pdt_cmp (op_neD hr.units) ro_ne (pd_op op_mod ro_int (pd_varF 6) (pd_varF 3)) pd_int (nomark _)) (pdss_one pds_continue) pdss_nil) (pdss_one (pds_forL hp rfl (pdil_items 5) (pdg_tup rfl (pdgs_cons (pdg_name 7 sc.nd rfl (by first | exact Or.inl rfl | exact Or.inr rfl)) (pdgs_cons (pdg_name 8 sc.nd rfl (by first | exact Or.inl rfl | exact Or.inr rfl)) pdgs_nil))) (pdss_cons (pds_set (i := 9) sc.nd rfl (by first | exact Or.inl rfl | exact Or.inr rfl) (pd_call dm_turned_states (ok_turned_states Γ) (hr.mono (by decide)) rfl Γ.m_turned_states Γ.F_turned_states.kp (b_turned_states Γ.F_turned_states) tk (pda_cons (pd_varF 4) (pda_cons (pd_varF 7) pda_nil)))) (pdss_one (pds_if (pdt_cmp op_gt ro_boo0 (pd_callB call_len rc_len rfl Γ.b_len rfl (pda_cons (pd_varF 9) pda_nil)) pd_int (nomark _)) (pdss_one (pds_ret (pd_tup (pda_cons (pd_gstr rfl Γ.g_TURN.1 Γ.g_TURN.2) (pda_cons (pd_call dm_row_ahead (ok_row_ahead Γ) (hr.mono (by decide)) rfl Γ.m_row_ahead Γ.F_row_ahead.kp (b_row_ahead Γ.F_row_ahead) tk (pda_cons (pd_varF 0) (pda_cons (pd_varF 1) (pda_cons (pd_varF 9) pda_nil)))) (pda_cons (pd_varF 8) pda_nil)))))) pdss_nil)))))))) (pdss_one (pds_ret pd_none))))))
  unfold dc_turn_paper at h
  exact ⟨_, der.run, body_of2 h der.mono⟩
theorem sc_turned_rows : FnScope ["machine", "first", "length", "loss", "modulus", "paper", "one", "ahead", "row"] ["machine", "first", "length", "loss", "modulus"] (defScope s_turned_rows) := ⟨rfl, rfl, rfl, by decide +kernel, rfl, by decide +kernel, by decide +kernel⟩
theorem ok_turned_rows (Γ : G K mg C_Machine) : FnOk P w K mg base (L2.CX P w) 7 Γ.f_turned_rows Γ.fd_turned_rows ["machine", "first", "length", "loss", "modulus"] (spD K 5 (dc_turned_rows C_Machine)) := by
  have sc := sc_turned_rows
  refine FunD.ok Γ.F_turned_rows sc (fun _ _ _ _ h => h.1) fun cdv A outer s H vs Q E hr h => ?_
  have tk : Takes (cxOf (L2.CX P w) P w K mg base ["machine", "first", "length", "loss", "modulus", "paper", "one", "ahead", "row"] "turned_rows" (defScope s_turned_rows) Γ.f_turned_rows cdv A outer s H E) (fun cls d _ H => E cls d H) := takes_of rfl rfl rfl rfl
  have hp : PassesOwn (model P w) (cxOf (L2.CX P w) P w K mg base ["machine", "first", "length", "loss", "modulus", "paper", "one", "ahead", "row"] "turned_rows" (defScope s_turned_rows) Γ.f_turned_rows cdv A outer s H E).A (cxOf (L2.CX P w) P w K mg base ["machine", "first", "length", "loss", "modulus", "paper", "one", "ahead", "row"] "turned_rows" (defScope s_turned_rows) Γ.f_turned_rows cdv A outer s H E).env (cxOf (L2.CX P w) P w K mg base ["machine", "first", "length", "loss", "modulus", "paper", "one", "ahead", "row"] "turned_rows" (defScope s_turned_rows) Γ.f_turned_rows cdv A outer s H E).xe := passes_of rfl
  have der : PDSs (cxOf (L2.CX P w) P w K mg base ["machine", "first", "length", "loss", "modulus", "paper", "one", "ahead", "row"] "turned_rows" (defScope s_turned_rows) Γ.f_turned_rows cdv A outer s H E) (fun cls d _ H => E cls d H) (defBody s_turned_rows) (ds_turned_rows C_Machine) :=
    (pdss_cons (pds_expr (pd_call dm_need_state (ok_need_state Γ) (hr.mono (by decide)) rfl Γ.m_need_state Γ.F_need_state.kp (b_need_state Γ.F_need_state) tk (pda_cons (pd_varF 0) (pda_cons (pd_varF 1) pda_nil)))) (pdss_cons (pds_if (pdt_not (pdt_val (pd_call dm_is_within (ok_is_within Γ) (hr.mono (by decide)) rfl Γ.m_is_within Γ.F_is_within.kp (b_is_within Γ.F_is_within) tk (pda_cons (pd_varF 2) (pda_cons pd_int (pda_cons (pd_gint rfl Γ.g_MOST_LENGTH.1 Γ.g_MOST_LENGTH.2) pda_nil)))))) (pdss_one pds_never) pdss_nil) (pdss_cons (pds_set (i := 5) sc.nd rfl (by first | exact Or.inl rfl | exact Or.inr rfl) (pd_call dm_turn_paper (ok_turn_paper Γ) (hr.mono (by decide)) rfl Γ.m_turn_paper Γ.F_turn_paper.kp (b_turn_paper Γ.F_turn_paper) tk (pda_cons (pd_varF 0) (pda_cons (pd_varF 1) (pda_cons (pd_varF 3) (pda_cons (pd_varF 4) pda_nil)))))) (pdss_cons (pds_if (pdt_cmp op_isN ro_isN (pd_varF 5) pd_none (nomark _)) (pdss_one (pds_ret pd_none)) pdss_nil) (pdss_cons (pds_par2 (i := 7) (j := 8) rfl sc.nd rfl rfl (by decide) rfl rfl (pm_d (pd_ix (pd_varF 5) pd_int (fun _ _ => rfl)) (pm_d (pd_ix (pd_varF 5) pd_int (fun _ _ => rfl)) pm_nil)) (by rfl)) (pdss_cons (pds_set (i := 6) sc.nd rfl (by first | exact Or.inl rfl | exact Or.inr rfl) (pd_op op_addAll ro_add (pd_varF 7) (pd_op op_repA ro_repA (pd_varF 8) (pd_neg (pd_op op_fdiv ro_int (pd_neg (pd_varF 2)) (pd_callB call_len rc_len rfl Γ.b_len rfl (pda_cons (pd_varF 8) pda_nil))))))) (pdss_one (pds_ret (pd_tup (pda_cons (pd_varF 6) (pda_cons (pd_op op_addAll ro_add (pd_varF 6) (pd_varF 8)) pda_nil)))))))))))
  unfold dc_turned_rows at h
  exact ⟨_, der.run, body_of2 h der.mono⟩
theorem sc_good_moduli : FnScope ["machine", "first", "loss", "lengths", "modulus", "length"] ["machine", "first", "loss"] (defScope s_good_moduli) := ⟨rfl, rfl, rfl, by decide +kernel, rfl, by decide +kernel, by decide +kernel⟩
theorem ok_good_moduli (Γ : G K mg C_Machine) : FnOk P w K mg base (L2.CX P w) 7 Γ.f_good_moduli Γ.fd_good_moduli ["machine", "first", "loss"] (spD K 3 (dc_good_moduli C_Machine)) := by
  have sc := sc_good_moduli
  refine FunD.ok Γ.F_good_moduli sc (fun _ _ _ _ h => h.1) fun cdv A outer s H vs Q E hr h => ?_
  have tk : Takes (cxOf (L2.CX P w) P w K mg base ["machine", "first", "loss", "lengths", "modulus", "length"] "good_moduli" (defScope s_good_moduli) Γ.f_good_moduli cdv A outer s H E) (fun cls d _ H => E cls d H) := takes_of rfl rfl rfl rfl
  have hp : PassesOwn (model P w) (cxOf (L2.CX P w) P w K mg base ["machine", "first", "loss", "lengths", "modulus", "length"] "good_moduli" (defScope s_good_moduli) Γ.f_good_moduli cdv A outer s H E).A (cxOf (L2.CX P w) P w K mg base ["machine", "first", "loss", "lengths", "modulus", "length"] "good_moduli" (defScope s_good_moduli) Γ.f_good_moduli cdv A outer s H E).env (cxOf (L2.CX P w) P w K mg base ["machine", "first", "loss", "lengths", "modulus", "length"] "good_moduli" (defScope s_good_moduli) Γ.f_good_moduli cdv A outer s H E).xe := passes_of rfl
  have der : PDSs (cxOf (L2.CX P w) P w K mg base ["machine", "first", "loss", "lengths", "modulus", "length"] "good_moduli" (defScope s_good_moduli) Γ.f_good_moduli cdv A outer s H E) (fun cls d _ H => E cls d H) (defBody s_good_moduli) (ds_good_moduli C_Machine) :=
    (pdss_cons (pds_set (i := 3) sc.nd rfl (by first | exact Or.inl rfl | exact Or.inr rfl) (pd_call dm_turning_lengths (ok_turning_lengths Γ) (hr.mono (by decide)) rfl Γ.m_turning_lengths Γ.F_turning_lengths.kp (b_turning_lengths Γ.F_turning_lengths) tk (pda_cons (pd_varF 0) (pda_cons (pd_varF 1) (pda_cons (pd_varF 2) pda_nil))))) (pdss_one (pds_ret (pd_callTy call_tuple_of rc_tuple rfl Γ.b_tuple rfl (pda_cons (pd_fz (pn_lc (own := [("modulus", 4)]) (g := (gName 4)) rfl sc.nd (pdi_r2 rfl Γ.b_range (pda_cons pd_int (pda_cons (pd_op op_addAll ro_add (pd_gint rfl Γ.g_MOST_MODULUS.1 Γ.g_MOST_MODULUS.2) pd_int) pda_nil))) (blkOk_by (by kernel_rfl)) rfl (fun _ _ _ _ _ => (pdg_name 4 sc.nd rfl (by first | exact Or.inl rfl | exact Or.inr rfl))) (by decide) (fun _ _ _ _ _ => (pdts_one (pdt_val (pd_callB (cr_all rfl) rc_all rfl Γ.b_all rfl (pda_cons (pd_fz (pn_lc (own := [("length", 5)]) (g := (gName 5)) rfl sc.nd (pdi_seq (pd_varF 3)) (blkOk_by (by kernel_rfl)) rfl (fun _ _ _ _ _ => (pdg_name 5 sc.nd rfl (by first | exact Or.inl rfl | exact Or.inr rfl))) (by decide) (fun _ _ _ _ _ => pdts_nil) (fun _ _ _ _ _ => (pd_cmp (op_neD hr.units) ro_ne (pd_op op_mod ro_int (pd_varF 5) (pd_varF 4)) pd_int (nomark _))))) pda_nil))))) (fun _ _ _ _ _ => (pd_varF 4)))) pda_nil)))))
  unfold dc_good_moduli at h
  exact ⟨_, der.run, body_of2 h der.mono⟩
theorem sc__law_box : FnScope ["script", "k", "cell", "great"] ["script", "k"] (defScope s__law_box) := ⟨rfl, rfl, rfl, by decide +kernel, rfl, by decide +kernel, by decide +kernel⟩
theorem ok__law_box (Γ : G K mg C_Machine) : FnOk P w K mg base (L2.CX P w) 1 Γ.f__law_box Γ.fd__law_box ["script", "k"] (spD K 2 (dc__law_box C_Machine)) := by
  have sc := sc__law_box
  refine FunD.ok Γ.F__law_box sc (fun _ _ _ _ h => h.1) fun cdv A outer s H vs Q E hr h => ?_
  have tk : Takes (cxOf (L2.CX P w) P w K mg base ["script", "k", "cell", "great"] "_law_box" (defScope s__law_box) Γ.f__law_box cdv A outer s H E) (fun cls d _ H => E cls d H) := takes_of rfl rfl rfl rfl
  have hp : PassesOwn (model P w) (cxOf (L2.CX P w) P w K mg base ["script", "k", "cell", "great"] "_law_box" (defScope s__law_box) Γ.f__law_box cdv A outer s H E).A (cxOf (L2.CX P w) P w K mg base ["script", "k", "cell", "great"] "_law_box" (defScope s__law_box) Γ.f__law_box cdv A outer s H E).env (cxOf (L2.CX P w) P w K mg base ["script", "k", "cell", "great"] "_law_box" (defScope s__law_box) Γ.f__law_box cdv A outer s H E).xe := passes_of rfl
  have der : PDSs (cxOf (L2.CX P w) P w K mg base ["script", "k", "cell", "great"] "_law_box" (defScope s__law_box) Γ.f__law_box cdv A outer s H E) (fun cls d _ H => E cls d H) (defBody s__law_box) (ds__law_box C_Machine) :=
    (pdss_cons (pds_set (i := 2) sc.nd rfl (by first | exact Or.inl rfl | exact Or.inr rfl) (pd_op op_addAll ro_add (pd_op op_mulAll ro_mul pd_int (pd_varF 1)) pd_int)) (pdss_cons (pds_if (pdt_cmp op_lt ro_boo0 (pd_varF 1) (pd_callB call_len rc_len rfl Γ.b_len rfl (pda_cons (pd_varF 0) pda_nil)) (nomark _)) (pdss_one (pds_set (i := 2) sc.nd rfl (by first | exact Or.inl rfl | exact Or.inr rfl) (pd_callB call_abs rc_abs rfl Γ.b_abs rfl (pda_cons (pd_callTy call_int1 rc_int rfl Γ.b_int rfl (pda_cons (pd_ix (pd_varF 0) (pd_varF 1) (fun _ _ => rfl)) pda_nil)) pda_nil)))) (pdss_one (pds_if (pdt_cmp op_gt ro_boo0 (pd_callB call_len rc_len rfl Γ.b_len rfl (pda_cons (pd_varF 0) pda_nil)) pd_int (nomark _)) (pdss_one (pds_set (i := 2) sc.nd rfl (by first | exact Or.inl rfl | exact Or.inr rfl) (pd_op op_addAll ro_add (pd_varF 2) (pd_op op_mulAll ro_mul (pd_op op_mod ro_int (pd_callTy call_int1 rc_int rfl Γ.b_int rfl (pda_cons (pd_callB call_abs rc_abs rfl Γ.b_abs rfl (pda_cons (pd_callTy call_int1 rc_int rfl Γ.b_int rfl (pda_cons (pd_ix (pd_varF 0) (pd_op op_mod ro_int (pd_callTy call_int1 rc_int rfl Γ.b_int rfl (pda_cons (pd_varF 1) pda_nil)) (pd_callB call_len rc_len rfl Γ.b_len rfl (pda_cons (pd_varF 0) pda_nil))) (fun _ _ => rfl)) pda_nil)) pda_nil)) pda_nil)) pd_int) pd_int)))) pdss_nil))) (pdss_cons (pds_set (i := 3) sc.nd rfl (by first | exact Or.inl rfl | exact Or.inr rfl) (pd_ifExp (pdt_cmp op_ge ro_boo0 (pd_varF 2) (pd_op op_pow ro_int pd_int pd_int) (nomark _)) (pd_varF 2) pd_int)) (pdss_one (pds_retN (pn_lst (pda_cons (pd_varF 3) (pda_cons (pd_op op_addAll ro_add (pd_op op_mod ro_int (pd_callTy call_int1 rc_int rfl Γ.b_int rfl (pda_cons (pd_op op_addAll ro_add (pd_op op_mulAll ro_mul (pd_op op_mod ro_int (pd_callTy call_int1 rc_int rfl Γ.b_int rfl (pda_cons (pd_varF 2) pda_nil)) pd_int) pd_int) (pd_op op_mulAll ro_mul pd_int (pd_varF 1))) pda_nil)) pd_int) pd_int) pda_nil))))))))
  unfold dc__law_box at h
  exact ⟨_, der.run, body_of2 h der.mono⟩
theorem sc__law_take : FnScope ["box", "many", "raw", "digit"] ["box", "many"] (defScope s__law_take) := ⟨rfl, rfl, rfl, by decide +kernel, rfl, by decide +kernel, by decide +kernel⟩
theorem ok__law_take (Γ : G K mg C_Machine) : FnOk P w K mg base (L2.CX P w) 1 Γ.f__law_take Γ.fd__law_take ["box", "many"] (spD K 2 (dc__law_take C_Machine)) := by
  have sc := sc__law_take
  refine FunD.ok Γ.F__law_take sc (fun _ _ _ _ h => h.1) fun cdv A outer s H vs Q E hr h => ?_
  have tk : Takes (cxOf (L2.CX P w) P w K mg base ["box", "many", "raw", "digit"] "_law_take" (defScope s__law_take) Γ.f__law_take cdv A outer s H E) (fun cls d _ H => E cls d H) := takes_of rfl rfl rfl rfl
  have hp : PassesOwn (model P w) (cxOf (L2.CX P w) P w K mg base ["box", "many", "raw", "digit"] "_law_take" (defScope s__law_take) Γ.f__law_take cdv A outer s H E).A (cxOf (L2.CX P w) P w K mg base ["box", "many", "raw", "digit"] "_law_take" (defScope s__law_take) Γ.f__law_take cdv A outer s H E).env (cxOf (L2.CX P w) P w K mg base ["box", "many", "raw", "digit"] "_law_take" (defScope s__law_take) Γ.f__law_take cdv A outer s H E).xe := passes_of rfl
  have der : PDSs (cxOf (L2.CX P w) P w K mg base ["box", "many", "raw", "digit"] "_law_take" (defScope s__law_take) Γ.f__law_take cdv A outer s H E) (fun cls d _ H => E cls d H) (defBody s__law_take) (ds__law_take C_Machine) :=
    (pdss_cons (pds_if (pdt_cmp op_gt ro_boo0 (pd_ixS 0 pd_int (fun _ _ => rfl)) pd_int (nomark _)) (pdss_cons (pds_set (i := 3) sc.nd rfl (by first | exact Or.inl rfl | exact Or.inr rfl) (pd_op op_mod ro_int (pd_callTy call_int1 rc_int rfl Γ.b_int rfl (pda_cons (pd_ixS 0 pd_int (fun _ _ => rfl)) pda_nil)) (pd_varF 1))) (pdss_cons (pds_asg (pd_op op_fdiv ro_int (pd_ixS 0 pd_int (fun _ _ => rfl)) (pd_varF 1)) (pdg_sub 0 hr pd_int)) (pdss_one (pds_ret (pd_varF 3))))) pdss_nil) (pdss_cons (pds_set (i := 2) sc.nd rfl (by first | exact Or.inl rfl | exact Or.inr rfl) (pd_op op_mod ro_int (pd_callTy call_int1 rc_int rfl Γ.b_int rfl (pda_cons (pd_op op_addAll ro_add (pd_op op_mulAll ro_mul (pd_ixS 0 pd_int (fun _ _ => rfl)) pd_int) pd_int) pda_nil)) pd_int)) (pdss_cons (pds_asg (pd_op op_addAll ro_add (pd_op op_mod ro_int (pd_callTy call_int1 rc_int rfl Γ.b_int rfl (pda_cons (pd_op op_addAll ro_add (pd_op op_mulAll ro_mul (pd_varF 2) pd_int) pd_int) pda_nil)) pd_int) pd_int) (pdg_sub 0 hr pd_int)) (pdss_one (pds_ret (pd_op op_mod ro_int (pd_callTy call_int1 rc_int rfl Γ.b_int rfl (pda_cons (pd_op op_fdiv ro_int (pd_op op_addAll ro_add (pd_op op_mulAll ro_mul (pd_varF 2) pd_int) (pd_ixS 0 pd_int (fun _ _ => rfl))) pd_int) pda_nil)) (pd_varF 1)))))))
  unfold dc__law_take at h
  exact ⟨_, der.run, body_of2 h der.mono⟩
theorem sc__law_pick : FnScope ["box", "some"] ["box", "some"] (defScope s__law_pick) := ⟨rfl, rfl, rfl, by decide +kernel, rfl, by decide +kernel, by decide +kernel⟩
theorem ok__law_pick (Γ : G K mg C_Machine) : FnOk P w K mg base (L2.CX P w) 2 Γ.f__law_pick Γ.fd__law_pick ["box", "some"] (spD K 2 (dc__law_pick C_Machine)) := by
  have sc := sc__law_pick
  refine FunD.ok Γ.F__law_pick sc (fun _ _ _ _ h => h.1) fun cdv A outer s H vs Q E hr h => ?_
  have tk : Takes (cxOf (L2.CX P w) P w K mg base ["box", "some"] "_law_pick" (defScope s__law_pick) Γ.f__law_pick cdv A outer s H E) (fun cls d _ H => E cls d H) := takes_of rfl rfl rfl rfl
  have hp : PassesOwn (model P w) (cxOf (L2.CX P w) P w K mg base ["box", "some"] "_law_pick" (defScope s__law_pick) Γ.f__law_pick cdv A outer s H E).A (cxOf (L2.CX P w) P w K mg base ["box", "some"] "_law_pick" (defScope s__law_pick) Γ.f__law_pick cdv A outer s H E).env (cxOf (L2.CX P w) P w K mg base ["box", "some"] "_law_pick" (defScope s__law_pick) Γ.f__law_pick cdv A outer s H E).xe := passes_of rfl
  have der : PDSs (cxOf (L2.CX P w) P w K mg base ["box", "some"] "_law_pick" (defScope s__law_pick) Γ.f__law_pick cdv A outer s H E) (fun cls d _ H => E cls d H) (defBody s__law_pick) (ds__law_pick C_Machine) :=
    (pdss_one (pds_ret (pd_ix (pd_varF 1) (pd_call dm__law_take (ok__law_take Γ) (hr.mono (by decide)) rfl Γ.m__law_take Γ.F__law_take.kp (b__law_take Γ.F__law_take) tk (pda_bor 0 (pda_cons (pd_callB call_len rc_len rfl Γ.b_len rfl (pda_cons (pd_varF 1) pda_nil)) pda_nil))) (fun _ _ => rfl))))
  unfold dc__law_pick at h
  exact ⟨_, der.run, body_of2 h der.mono⟩
theorem sc__law_tables : FnScope ["box", "most", "style", "deed", "states", "found", "one", "other", "state"] ["box", "most"] (defScope s__law_tables) := ⟨rfl, rfl, rfl, by decide +kernel, rfl, by decide +kernel, by decide +kernel⟩
theorem ok__law_tables (Γ : G K mg C_Machine) : FnOk P w K mg base (L2.CX P w) 3 Γ.f__law_tables Γ.fd__law_tables ["box", "most"] (spD K 2 (dc__law_tables C_Machine)) := by
  have sc := sc__law_tables
  refine FunD.ok Γ.F__law_tables sc (fun _ _ _ _ h => h.1) fun cdv A outer s H vs Q E hr h => ?_
  have tk : Takes (cxOf (L2.CX P w) P w K mg base ["box", "most", "style", "deed", "states", "found", "one", "other", "state"] "_law_tables" (defScope s__law_tables) Γ.f__law_tables cdv A outer s H E) (fun cls d _ H => E cls d H) := takes_of rfl rfl rfl rfl
  have hp : PassesOwn (model P w) (cxOf (L2.CX P w) P w K mg base ["box", "most", "style", "deed", "states", "found", "one", "other", "state"] "_law_tables" (defScope s__law_tables) Γ.f__law_tables cdv A outer s H E).A (cxOf (L2.CX P w) P w K mg base ["box", "most", "style", "deed", "states", "found", "one", "other", "state"] "_law_tables" (defScope s__law_tables) Γ.f__law_tables cdv A outer s H E).env (cxOf (L2.CX P w) P w K mg base ["box", "most", "style", "deed", "states", "found", "one", "other", "state"] "_law_tables" (defScope s__law_tables) Γ.f__law_tables cdv A outer s H E).xe := passes_of rfl
  have der : PDSs (cxOf (L2.CX P w) P w K mg base ["box", "most", "style", "deed", "states", "found", "one", "other", "state"] "_law_tables" (defScope s__law_tables) Γ.f__law_tables cdv A outer s H E) (fun cls d _ H => E cls d H) (defBody s__law_tables) (ds__law_tables C_Machine) :=
    (pdss_cons (pds_parT (n := 2) rfl rfl (by decide) (pns_cons (i := 4) (pns_cons (i := 5) pns_nil sc.nd rfl (by first | exact Or.inl rfl | exact Or.inr rfl)) sc.nd rfl (by first | exact Or.inl rfl | exact Or.inr rfl)) (pm_d (pd_op op_addAll ro_add pd_int (pd_call dm__law_take (ok__law_take Γ) (hr.mono (by decide)) rfl Γ.m__law_take Γ.F__law_take.kp (b__law_take Γ.F__law_take) tk (pda_bor 0 (pda_cons (pd_varF 1) pda_nil)))) (pm_n (pn_lst pda_nil) pm_nil))) (pdss_cons (pds_set (i := 2) sc.nd rfl (by first | exact Or.inl rfl | exact Or.inr rfl) (pd_call dm__law_take (ok__law_take Γ) (hr.mono (by decide)) rfl Γ.m__law_take Γ.F__law_take.kp (b__law_take Γ.F__law_take) tk (pda_bor 0 (pda_cons pd_int pda_nil)))) (pdss_cons (pds_for hp rfl (pdi_r1 rfl Γ.b_range (pda_cons (pd_op op_addAll ro_add pd_int (pd_call dm__law_take (ok__law_take Γ) (hr.mono (by decide)) rfl Γ.m__law_take Γ.F__law_take.kp (b__law_take Γ.F__law_take) tk (pda_bor 0 (pda_cons pd_int pda_nil)))) pda_nil)) (pdg_name 3 sc.nd rfl (by first | exact Or.inl rfl | exact Or.inr rfl)) (pdss_cons (pds_parT (n := 2) rfl rfl (by decide) (pns_cons (i := 6) (pns_cons (i := 7) pns_nil sc.nd rfl (by first | exact Or.inl rfl | exact Or.inr rfl)) sc.nd rfl (by first | exact Or.inl rfl | exact Or.inr rfl)) (pm_d (pd_call dm__law_take (ok__law_take Γ) (hr.mono (by decide)) rfl Γ.m__law_take Γ.F__law_take.kp (b__law_take Γ.F__law_take) tk (pda_bor 0 (pda_cons (pd_varF 4) pda_nil))) (pm_d (pd_call dm__law_take (ok__law_take Γ) (hr.mono (by decide)) rfl Γ.m__law_take Γ.F__law_take.kp (b__law_take Γ.F__law_take) tk (pda_bor 0 (pda_cons (pd_varF 4) pda_nil))) pm_nil))) (pdss_one (pds_if (pdt_cmp (op_eqD hr.units) ro_eq (pd_varF 2) pd_int (nomark _)) (pdss_one (pds_app 5 (pd_callTy call_tuple_of rc_tuple rfl Γ.b_tuple rfl (pda_cons (pd_fz (pn_lc (own := [("state", 8)]) (g := (gName 8)) rfl sc.nd (pdi_r1 rfl Γ.b_range (pda_cons (pd_varF 4) pda_nil)) (blkOk_by (by kernel_rfl)) rfl (fun _ _ _ _ _ => (pdg_name 8 sc.nd rfl (by first | exact Or.inl rfl | exact Or.inr rfl))) (by decide) (fun _ _ _ _ _ => pdts_nil) (fun _ _ _ _ _ => (pd_op op_mod ro_int (pd_callTy call_int1 rc_int rfl Γ.b_int rfl (pda_cons (pd_op op_addAll ro_add (pd_varF 8) (pd_varF 6)) pda_nil)) (pd_varF 4))))) pda_nil)))) (pdss_one (pds_if (pdt_cmp (op_eqD hr.units) ro_eq (pd_varF 2) pd_int (nomark _)) (pdss_one (pds_app 5 (pd_callTy call_tuple_of rc_tuple rfl Γ.b_tuple rfl (pda_cons (pd_fz (pn_lc (own := [("state", 8)]) (g := (gName 8)) rfl sc.nd (pdi_r1 rfl Γ.b_range (pda_cons (pd_varF 4) pda_nil)) (blkOk_by (by kernel_rfl)) rfl (fun _ _ _ _ _ => (pdg_name 8 sc.nd rfl (by first | exact Or.inl rfl | exact Or.inr rfl))) (by decide) (fun _ _ _ _ _ => pdts_nil) (fun _ _ _ _ _ => (pd_ifExp (pdt_cmp (op_eqD hr.units) ro_eq (pd_varF 8) (pd_varF 6) (nomark _)) (pd_varF 7) (pd_ifExp (pdt_cmp (op_eqD hr.units) ro_eq (pd_varF 8) (pd_varF 7) (nomark _)) (pd_varF 6) (pd_varF 8)))))) pda_nil)))) (pdss_one (pds_if (pdt_cmp (op_eqD hr.units) ro_eq (pd_varF 2) pd_int (nomark _)) (pdss_one (pds_app 5 (pd_callTy call_tuple_of rc_tuple rfl Γ.b_tuple rfl (pda_cons (pd_fz (pn_lc (own := [("state", 8)]) (g := (gName 8)) rfl sc.nd (pdi_r1 rfl Γ.b_range (pda_cons (pd_varF 4) pda_nil)) (blkOk_by (by kernel_rfl)) rfl (fun _ _ _ _ _ => (pdg_name 8 sc.nd rfl (by first | exact Or.inl rfl | exact Or.inr rfl))) (by decide) (fun _ _ _ _ _ => pdts_nil) (fun _ _ _ _ _ => (pd_callB (call_min2 rfl) rc_min rfl Γ.b_min rfl (pda_cons (pd_op op_sub ro_int0 (pd_varF 4) pd_int) (pda_cons (pd_callB (call_max2 rfl) rc_max rfl Γ.b_max rfl (pda_cons pd_int (pda_cons (pd_op op_addAll ro_add (pd_varF 8) (pd_call dm__law_pick (ok__law_pick Γ) (hr.mono (by decide)) rfl Γ.m__law_pick Γ.F__law_pick.kp (b__law_pick Γ.F__law_pick) takes0 (pda_bor 0 (pda_cons (pd_lst (pda_cons (pd_varF 6) (pda_cons (pd_op op_sub ro_int0 pd_int (pd_varF 7)) pda_nil))) pda_nil)))) pda_nil))) pda_nil)))))) pda_nil)))) (pdss_one (pds_if (pdt_cmp (op_eqD hr.units) ro_eq (pd_varF 2) pd_int (nomark _)) (pdss_one (pds_app 5 (pd_callTy call_tuple_of rc_tuple rfl Γ.b_tuple rfl (pda_cons (pd_fz (pn_lc (own := [("state", 8)]) (g := (gName 8)) rfl sc.nd (pdi_r1 rfl Γ.b_range (pda_cons (pd_varF 4) pda_nil)) (blkOk_by (by kernel_rfl)) rfl (fun _ _ _ _ _ => (pdg_name 8 sc.nd rfl (by first | exact Or.inl rfl | exact Or.inr rfl))) (by decide) (fun _ _ _ _ _ => pdts_nil) (fun _ _ _ _ _ => (pd_ifExp (pdt_cmp (op_eqD hr.units) ro_eq (pd_call dm__law_take (ok__law_take Γ) (hr.mono (by decide)) rfl Γ.m__law_take Γ.F__law_take.kp (b__law_take Γ.F__law_take) takes0 (pda_bor 0 (pda_cons pd_int pda_nil))) pd_int (nomark _)) (pd_varF 6) (pd_varF 8))))) pda_nil)))) (pdss_one (pds_app 5 (pd_callTy call_tuple_of rc_tuple rfl Γ.b_tuple rfl (pda_cons (pd_fz (pn_lc (own := [("state", 8)]) (g := (gName 8)) rfl sc.nd (pdi_r1 rfl Γ.b_range (pda_cons (pd_varF 4) pda_nil)) (blkOk_by (by kernel_rfl)) rfl (fun _ _ _ _ _ => (pdg_name 8 sc.nd rfl (by first | exact Or.inl rfl | exact Or.inr rfl))) (by decide) (fun _ _ _ _ _ => pdts_nil) (fun _ _ _ _ _ => (pd_call dm__law_take (ok__law_take Γ) (hr.mono (by decide)) rfl Γ.m__law_take Γ.F__law_take.kp (b__law_take Γ.F__law_take) takes0 (pda_bor 0 (pda_cons (pd_varF 4) pda_nil)))))) pda_nil)))))))))))))) (pdss_one (pds_ret (pd_callTy call_tuple_of rc_tuple rfl Γ.b_tuple rfl (pda_cons (pd_varF 5) pda_nil)))))))
  unfold dc__law_tables at h
  exact ⟨_, der.run, body_of2 h der.mono⟩
theorem sc__law_led : FnScope ["tables", "state", "row", "deed"] ["tables", "state", "row"] (defScope s__law_led) := ⟨rfl, rfl, rfl, by decide +kernel, rfl, by decide +kernel, by decide +kernel⟩
theorem ok__law_led (Γ : G K mg C_Machine) : FnOk P w K mg base (L2.CX P w) 1 Γ.f__law_led Γ.fd__law_led ["tables", "state", "row"] (spD K 3 (dc__law_led C_Machine)) := by
  have sc := sc__law_led
  refine FunD.ok Γ.F__law_led sc (fun _ _ _ _ h => h.1) fun cdv A outer s H vs Q E hr h => ?_
  have tk : Takes (cxOf (L2.CX P w) P w K mg base ["tables", "state", "row", "deed"] "_law_led" (defScope s__law_led) Γ.f__law_led cdv A outer s H E) (fun cls d _ H => E cls d H) := takes_of rfl rfl rfl rfl
  have hp : PassesOwn (model P w) (cxOf (L2.CX P w) P w K mg base ["tables", "state", "row", "deed"] "_law_led" (defScope s__law_led) Γ.f__law_led cdv A outer s H E).A (cxOf (L2.CX P w) P w K mg base ["tables", "state", "row", "deed"] "_law_led" (defScope s__law_led) Γ.f__law_led cdv A outer s H E).env (cxOf (L2.CX P w) P w K mg base ["tables", "state", "row", "deed"] "_law_led" (defScope s__law_led) Γ.f__law_led cdv A outer s H E).xe := passes_of rfl
  have der : PDSs (cxOf (L2.CX P w) P w K mg base ["tables", "state", "row", "deed"] "_law_led" (defScope s__law_led) Γ.f__law_led cdv A outer s H E) (fun cls d _ H => E cls d H) (defBody s__law_led) (ds__law_led C_Machine) :=
    (pdss_cons (pds_for hp rfl (pdi_seq (pd_varF 2)) (pdg_name 3 sc.nd rfl (by first | exact Or.inl rfl | exact Or.inr rfl)) (pdss_one (pds_set (i := 1) sc.nd rfl (by first | exact Or.inl rfl | exact Or.inr rfl) (pd_ix (pd_ix (pd_varF 0) (pd_varF 3) (fun _ _ => rfl)) (pd_varF 1) (fun _ _ => rfl))))) (pdss_one (pds_ret (pd_varF 1))))
  unfold dc__law_led at h
  exact ⟨_, der.run, body_of2 h der.mono⟩
theorem sc__law_rounds : FnScope ["tables", "state", "row", "here", "times"] ["tables", "state", "row"] (defScope s__law_rounds) := ⟨rfl, rfl, rfl, by decide +kernel, rfl, by decide +kernel, by decide +kernel⟩
theorem ok__law_rounds (Γ : G K mg C_Machine) : FnOk P w K mg base (L2.CX P w) 2 Γ.f__law_rounds Γ.fd__law_rounds ["tables", "state", "row"] (spD K 3 (dc__law_rounds C_Machine)) := by
  have sc := sc__law_rounds
  refine FunD.ok Γ.F__law_rounds sc (fun _ _ _ _ h => h.1) fun cdv A outer s H vs Q E hr h => ?_
  have tk : Takes (cxOf (L2.CX P w) P w K mg base ["tables", "state", "row", "here", "times"] "_law_rounds" (defScope s__law_rounds) Γ.f__law_rounds cdv A outer s H E) (fun cls d _ H => E cls d H) := takes_of rfl rfl rfl rfl
  have hp : PassesOwn (model P w) (cxOf (L2.CX P w) P w K mg base ["tables", "state", "row", "here", "times"] "_law_rounds" (defScope s__law_rounds) Γ.f__law_rounds cdv A outer s H E).A (cxOf (L2.CX P w) P w K mg base ["tables", "state", "row", "here", "times"] "_law_rounds" (defScope s__law_rounds) Γ.f__law_rounds cdv A outer s H E).env (cxOf (L2.CX P w) P w K mg base ["tables", "state", "row", "here", "times"] "_law_rounds" (defScope s__law_rounds) Γ.f__law_rounds cdv A outer s H E).xe := passes_of rfl
  have der : PDSs (cxOf (L2.CX P w) P w K mg base ["tables", "state", "row", "here", "times"] "_law_rounds" (defScope s__law_rounds) Γ.f__law_rounds cdv A outer s H E) (fun cls d _ H => E cls d H) (defBody s__law_rounds) (ds__law_rounds C_Machine) :=
    (pdss_cons (pds_set (i := 3) sc.nd rfl (by first | exact Or.inl rfl | exact Or.inr rfl) (pd_varF 1)) (pdss_cons (pds_for hp rfl (pdi_r2 rfl Γ.b_range (pda_cons pd_int (pda_cons pd_int pda_nil))) (pdg_name 4 sc.nd rfl (by first | exact Or.inl rfl | exact Or.inr rfl)) (pdss_cons (pds_set (i := 3) sc.nd rfl (by first | exact Or.inl rfl | exact Or.inr rfl) (pd_call dm__law_led (ok__law_led Γ) (hr.mono (by decide)) rfl Γ.m__law_led Γ.F__law_led.kp (b__law_led Γ.F__law_led) tk (pda_cons (pd_varF 0) (pda_cons (pd_varF 3) (pda_cons (pd_varF 2) pda_nil))))) (pdss_one (pds_if (pdt_cmp (op_eqD hr.units) ro_eq (pd_varF 3) (pd_varF 1) (nomark _)) (pdss_one (pds_ret (pd_varF 4))) pdss_nil)))) (pdss_one (pds_ret pd_int))))
  unfold dc__law_rounds at h
  exact ⟨_, der.run, body_of2 h der.mono⟩
theorem sc__law_come : FnScope ["tables", "first", "turn", "rows", "order", "deed", "after"] ["tables", "first"] (defScope s__law_come) := ⟨rfl, rfl, rfl, by decide +kernel, rfl, by decide +kernel, by decide +kernel⟩
theorem ok__law_come (Γ : G K mg C_Machine) : FnOk P w K mg base (L2.CX P w) 1 Γ.f__law_come Γ.fd__law_come ["tables", "first"] (spD K 2 (dc__law_come C_Machine)) := by
  have sc := sc__law_come
  refine FunD.ok Γ.F__law_come sc (fun _ _ _ _ h => h.1) fun cdv A outer s H vs Q E hr h => ?_
  have tk : Takes (cxOf (L2.CX P w) P w K mg base ["tables", "first", "turn", "rows", "order", "deed", "after"] "_law_come" (defScope s__law_come) Γ.f__law_come cdv A outer s H E) (fun cls d _ H => E cls d H) := takes_of rfl rfl rfl rfl
  have hp : PassesOwn (model P w) (cxOf (L2.CX P w) P w K mg base ["tables", "first", "turn", "rows", "order", "deed", "after"] "_law_come" (defScope s__law_come) Γ.f__law_come cdv A outer s H E).A (cxOf (L2.CX P w) P w K mg base ["tables", "first", "turn", "rows", "order", "deed", "after"] "_law_come" (defScope s__law_come) Γ.f__law_come cdv A outer s H E).env (cxOf (L2.CX P w) P w K mg base ["tables", "first", "turn", "rows", "order", "deed", "after"] "_law_come" (defScope s__law_come) Γ.f__law_come cdv A outer s H E).xe := passes_of rfl
  have der : PDSs (cxOf (L2.CX P w) P w K mg base ["tables", "first", "turn", "rows", "order", "deed", "after"] "_law_come" (defScope s__law_come) Γ.f__law_come cdv A outer s H E) (fun cls d _ H => E cls d H) (defBody s__law_come) (ds__law_come C_Machine) :=
    (pdss_cons (pds_par2 (i := 3) (j := 4) rfl sc.nd rfl rfl (by decide) rfl rfl (pm_n pn_dnewK (pm_n (pn_lst (pda_cons (pd_varF 1) pda_nil)) pm_nil)) (by rfl)) (pdss_cons (pds_asg (pd_tup pda_nil) (pdg_sub 3 hr (pd_varF 1))) (pdss_cons (pds_for hp rfl (pdi_r1 rfl Γ.b_range (pda_cons pd_int pda_nil)) (pdg_name 2 sc.nd rfl (by first | exact Or.inl rfl | exact Or.inr rfl)) (pdss_one (pds_if (pdt_cmp op_lt ro_boo0 (pd_varF 2) (pd_lenS 4 rfl Γ.b_len) (nomark _)) (pdss_one (pds_for hp rfl (pdi_r1 rfl Γ.b_range (pda_cons (pd_callB call_len rc_len rfl Γ.b_len rfl (pda_cons (pd_varF 0) pda_nil)) pda_nil)) (pdg_name 5 sc.nd rfl (by first | exact Or.inl rfl | exact Or.inr rfl)) (pdss_cons (pds_set (i := 6) sc.nd rfl (by first | exact Or.inl rfl | exact Or.inr rfl) (pd_ix (pd_ix (pd_varF 0) (pd_varF 5) (fun _ _ => rfl)) (pd_ixS 4 (pd_varF 2) (fun _ _ => rfl)) (fun _ _ => rfl))) (pdss_one (pds_if (pdt_notinS 3 hr (pd_varF 6)) (pdss_cons (pds_asg (pd_op op_addAll ro_add (pd_getS 3 hr (pd_ixS 4 (pd_varF 2) (fun _ _ => rfl)) (fun _ _ => rfl)) (pd_tup (pda_cons (pd_varF 5) pda_nil))) (pdg_sub 3 hr (pd_varF 6))) (pdss_one (pds_app 4 (pd_varF 6)))) pdss_nil))))) pdss_nil))) (pdss_one (pds_ret (pd_tup (pda_cons (pd_varF 3) (pda_cons (pd_varF 4) pda_nil))))))))
  unfold dc__law_come at h
  exact ⟨_, der.run, body_of2 h der.mono⟩
theorem sc__law_is_right : FnScope ["tables", "first", "length", "loss", "modulus", "rows", "here", "turn", "longer", "row", "sights", "there", "ends", "state", "deeds", "number", "page", "after", "later", "deed"] ["tables", "first", "length", "loss", "modulus"] (defScope s__law_is_right) := ⟨rfl, rfl, rfl, by decide +kernel, rfl, by decide +kernel, by decide +kernel⟩
theorem ok__law_is_right (Γ : G K mg C_Machine) : FnOk P w K mg base (L2.CX P w) 2 Γ.f__law_is_right Γ.fd__law_is_right ["tables", "first", "length", "loss", "modulus"] (spD K 5 (dc__law_is_right C_Machine)) := by
  have sc := sc__law_is_right
  refine FunD.ok Γ.F__law_is_right sc (fun _ _ _ _ h => h.1) fun cdv A outer s H vs Q E hr h => ?_
  have tk : Takes (cxOf (L2.CX P w) P w K mg base ["tables", "first", "length", "loss", "modulus", "rows", "here", "turn", "longer", "row", "sights", "there", "ends", "state", "deeds", "number", "page", "after", "later", "deed"] "_law_is_right" (defScope s__law_is_right) Γ.f__law_is_right cdv A outer s H E) (fun cls d _ H => E cls d H) := takes_of rfl rfl rfl rfl
  have hp : PassesOwn (model P w) (cxOf (L2.CX P w) P w K mg base ["tables", "first", "length", "loss", "modulus", "rows", "here", "turn", "longer", "row", "sights", "there", "ends", "state", "deeds", "number", "page", "after", "later", "deed"] "_law_is_right" (defScope s__law_is_right) Γ.f__law_is_right cdv A outer s H E).A (cxOf (L2.CX P w) P w K mg base ["tables", "first", "length", "loss", "modulus", "rows", "here", "turn", "longer", "row", "sights", "there", "ends", "state", "deeds", "number", "page", "after", "later", "deed"] "_law_is_right" (defScope s__law_is_right) Γ.f__law_is_right cdv A outer s H E).env (cxOf (L2.CX P w) P w K mg base ["tables", "first", "length", "loss", "modulus", "rows", "here", "turn", "longer", "row", "sights", "there", "ends", "state", "deeds", "number", "page", "after", "later", "deed"] "_law_is_right" (defScope s__law_is_right) Γ.f__law_is_right cdv A outer s H E).xe := passes_of rfl
  have der : PDSs (cxOf (L2.CX P w) P w K mg base ["tables", "first", "length", "loss", "modulus", "rows", "here", "turn", "longer", "row", "sights", "there", "ends", "state", "deeds", "number", "page", "after", "later", "deed"] "_law_is_right" (defScope s__law_is_right) Γ.f__law_is_right cdv A outer s H E) (fun cls d _ H => E cls d H) (defBody s__law_is_right) (ds__law_is_right C_Machine) :=
    (pdss_cons (pds_own (i := 5) sc.nd rfl (by first | exact Or.inl rfl | exact Or.inr rfl) (pn_lst (pda_cons (pd_tup pda_nil) pda_nil))) (pdss_cons (pds_own (i := 6) sc.nd rfl (by first | exact Or.inl rfl | exact Or.inr rfl) (pn_lst (pda_cons (pd_tup pda_nil) pda_nil))) (pdss_cons (pds_for hp rfl (pdi_r1 rfl Γ.b_range (pda_cons (pd_varF 3) pda_nil)) (pdg_name 7 sc.nd rfl (by first | exact Or.inl rfl | exact Or.inr rfl)) (pdss_cons (pds_own (i := 8) sc.nd rfl (by first | exact Or.inl rfl | exact Or.inr rfl) (pn_lst pda_nil)) (pdss_cons (pds_for hp rfl (pdi_seq (pd_varF 6)) (pdg_name 9 sc.nd rfl (by first | exact Or.inl rfl | exact Or.inr rfl)) (pdss_one (pds_set (i := 8) sc.nd rfl (by first | exact Or.inl rfl | exact Or.inr rfl) (pd_op op_addAll ro_add (pd_varF 8) (pd_fz (pn_lc (own := [("deed", 19)]) (g := (gName 19)) rfl sc.nd (pdi_r1 rfl Γ.b_range (pda_cons (pd_callB call_len rc_len rfl Γ.b_len rfl (pda_cons (pd_varF 0) pda_nil)) pda_nil)) (blkOk_by (by kernel_rfl)) rfl (fun _ _ _ _ _ => (pdg_name 19 sc.nd rfl (by first | exact Or.inl rfl | exact Or.inr rfl))) (by decide) (fun _ _ _ _ _ => pdts_nil) (fun _ _ _ _ _ => (pd_op op_addAll ro_add (pd_varF 9) (pd_tup (pda_cons (pd_varF 19) pda_nil)))))))))) (pdss_cons (pds_set (i := 6) sc.nd rfl (by first | exact Or.inl rfl | exact Or.inr rfl) (pd_varF 8)) (pdss_one (pds_set (i := 5) sc.nd rfl (by first | exact Or.inl rfl | exact Or.inr rfl) (pd_op op_addAll ro_add (pd_varF 5) (pd_varF 6)))))))) (pdss_cons (pds_par2 (i := 10) (j := 11) rfl sc.nd rfl rfl (by decide) rfl rfl (pm_n (pn_lst (pda_cons (pd_tup (pda_cons (pd_varF 1) (pda_cons (pd_tup pda_nil) (pda_cons pd_int pda_nil)))) pda_nil)) (pm_n pn_dnewN pm_nil)) (by rfl)) (pdss_cons (pds_asg pd_bool (pdg_subN 11 hr (pd_tup (pda_cons (pd_varF 1) (pda_cons (pd_tup pda_nil) (pda_cons pd_int pda_nil)))))) (pdss_cons (pds_for hp rfl (pdi_r1 rfl Γ.b_range (pda_cons pd_int pda_nil)) (pdg_name 7 sc.nd rfl (by first | exact Or.inl rfl | exact Or.inr rfl)) (pdss_one (pds_if (pdt_cmp op_lt ro_boo0 (pd_varF 7) (pd_lenS 10 rfl Γ.b_len) (nomark _)) (pdss_cons (pds_asg (pd_ixS 10 (pd_varF 7) (fun _ _ => rfl)) (pdg_tup rfl (pdgs_cons (pdg_name 13 sc.nd rfl (by first | exact Or.inl rfl | exact Or.inr rfl)) (pdgs_cons (pdg_name 14 sc.nd rfl (by first | exact Or.inl rfl | exact Or.inr rfl)) (pdgs_cons (pdg_name 15 sc.nd rfl (by first | exact Or.inl rfl | exact Or.inr rfl)) pdgs_nil))))) (pdss_cons (pds_own (i := 12) sc.nd rfl (by first | exact Or.inl rfl | exact Or.inr rfl) pn_dnewN) (pdss_one (pds_for hp rfl (pdi_seq (pd_varF 5)) (pdg_name 9 sc.nd rfl (by first | exact Or.inl rfl | exact Or.inr rfl)) (pdss_cons (pds_set (i := 16) sc.nd rfl (by first | exact Or.inl rfl | exact Or.inr rfl) (pd_tup (pda_cons (pd_slice (pd_op op_addAll ro_add (pd_varF 14) (pd_varF 9)) (pdo_some (pd_callB (call_max2 rfl) rc_max rfl Γ.b_max rfl (pda_cons pd_int (pda_cons (pd_op op_sub ro_int0 (pd_op op_addAll ro_add (pd_callB call_len rc_len rfl Γ.b_len rfl (pda_cons (pd_varF 14) pda_nil)) (pd_callB call_len rc_len rfl Γ.b_len rfl (pda_cons (pd_varF 9) pda_nil))) (pd_varF 2)) pda_nil)))) pdo_none) (pda_cons (pd_op op_mod ro_int (pd_callTy call_int1 rc_int rfl Γ.b_int rfl (pda_cons (pd_op op_addAll ro_add (pd_varF 15) (pd_callB call_len rc_len rfl Γ.b_len rfl (pda_cons (pd_varF 9) pda_nil))) pda_nil)) (pd_varF 4)) pda_nil)))) (pdss_cons (pds_set (i := 17) sc.nd rfl (by first | exact Or.inl rfl | exact Or.inr rfl) (pd_call dm__law_led (ok__law_led Γ) (hr.mono (by decide)) rfl Γ.m__law_led Γ.F__law_led.kp (b__law_led Γ.F__law_led) tk (pda_cons (pd_varF 0) (pda_cons (pd_varF 13) (pda_cons (pd_varF 9) pda_nil))))) (pdss_cons (pds_if (pdt_cmp (op_neD hr.units) ro_ne (pd_setdN 12 hr (pd_varF 16) (pd_varF 17) ⟨rfl, by rfl, rfl, rfl⟩) (pd_varF 17) (nomark _)) (pdss_one (pds_ret pd_bool)) pdss_nil) (pdss_one (pds_if (pdt_cmp (op_eqD hr.units) ro_eq (pd_callB call_len rc_len rfl Γ.b_len rfl (pda_cons (pd_varF 9) pda_nil)) pd_int (nomark _)) (pdss_cons (pds_set (i := 18) sc.nd rfl (by first | exact Or.inl rfl | exact Or.inr rfl) (pd_tup (pda_cons (pd_varF 17) (pda_cons (pd_ix (pd_varF 16) pd_int (fun _ _ => rfl)) (pda_cons (pd_ix (pd_varF 16) pd_int (fun _ _ => rfl)) pda_nil))))) (pdss_one (pds_if (pdt_notinSN 11 hr (pd_varF 18)) (pdss_cons (pds_asg pd_bool (pdg_subN 11 hr (pd_varF 18))) (pdss_one (pds_app 10 (pd_varF 18)))) pdss_nil))) pdss_nil))))))))) pdss_nil))) (pdss_one (pds_ret (pd_cmp op_le ro_boo0 (pd_lenS 10 rfl Γ.b_len) pd_int (nomark _))))))))))
  unfold dc__law_is_right at h
  exact ⟨_, der.run, body_of2 h der.mono⟩
theorem sc__law_goes : FnScope ["tables", "first", "loss", "modulus", "length", "order", "here", "longer", "row", "deed", "state"] ["tables", "first", "loss", "modulus"] (defScope s__law_goes) := ⟨rfl, rfl, rfl, by decide +kernel, rfl, by decide +kernel, by decide +kernel⟩
theorem ok__law_goes (Γ : G K mg C_Machine) : FnOk P w K mg base (L2.CX P w) 3 Γ.f__law_goes Γ.fd__law_goes ["tables", "first", "loss", "modulus"] (spD K 4 (dc__law_goes C_Machine)) := by
  have sc := sc__law_goes
  refine FunD.ok Γ.F__law_goes sc (fun _ _ _ _ h => h.1) fun cdv A outer s H vs Q E hr h => ?_
  have tk : Takes (cxOf (L2.CX P w) P w K mg base ["tables", "first", "loss", "modulus", "length", "order", "here", "longer", "row", "deed", "state"] "_law_goes" (defScope s__law_goes) Γ.f__law_goes cdv A outer s H E) (fun cls d _ H => E cls d H) := takes_of rfl rfl rfl rfl
  have hp : PassesOwn (model P w) (cxOf (L2.CX P w) P w K mg base ["tables", "first", "loss", "modulus", "length", "order", "here", "longer", "row", "deed", "state"] "_law_goes" (defScope s__law_goes) Γ.f__law_goes cdv A outer s H E).A (cxOf (L2.CX P w) P w K mg base ["tables", "first", "loss", "modulus", "length", "order", "here", "longer", "row", "deed", "state"] "_law_goes" (defScope s__law_goes) Γ.f__law_goes cdv A outer s H E).env (cxOf (L2.CX P w) P w K mg base ["tables", "first", "loss", "modulus", "length", "order", "here", "longer", "row", "deed", "state"] "_law_goes" (defScope s__law_goes) Γ.f__law_goes cdv A outer s H E).xe := passes_of rfl
  have der : PDSs (cxOf (L2.CX P w) P w K mg base ["tables", "first", "loss", "modulus", "length", "order", "here", "longer", "row", "deed", "state"] "_law_goes" (defScope s__law_goes) Γ.f__law_goes cdv A outer s H E) (fun cls d _ H => E cls d H) (defBody s__law_goes) (ds__law_goes C_Machine) :=
    (pdss_cons (pds_par2 (i := 5) (j := 6) rfl sc.nd rfl rfl (by decide) rfl rfl (pm_d (pd_ix (pd_call dm__law_come (ok__law_come Γ) (hr.mono (by decide)) rfl Γ.m__law_come Γ.F__law_come.kp (b__law_come Γ.F__law_come) tk (pda_cons (pd_varF 0) (pda_cons (pd_varF 1) pda_nil))) pd_int (fun _ _ => rfl)) (pm_n (pn_lst (pda_cons (pd_tup pda_nil) pda_nil)) pm_nil)) (by rfl)) (pdss_cons (pds_for hp rfl (pdi_r2 rfl Γ.b_range (pda_cons pd_int (pda_cons (pd_op op_addAll ro_add (pd_varF 2) pd_int) pda_nil))) (pdg_name 4 sc.nd rfl (by first | exact Or.inl rfl | exact Or.inr rfl)) (pdss_cons (pds_own (i := 7) sc.nd rfl (by first | exact Or.inl rfl | exact Or.inr rfl) (pn_lst pda_nil)) (pdss_cons (pds_for hp rfl (pdi_seq (pd_varF 6)) (pdg_name 8 sc.nd rfl (by first | exact Or.inl rfl | exact Or.inr rfl)) (pdss_one (pds_set (i := 7) sc.nd rfl (by first | exact Or.inl rfl | exact Or.inr rfl) (pd_op op_addAll ro_add (pd_varF 7) (pd_fz (pn_lc (own := [("deed", 9)]) (g := (gName 9)) rfl sc.nd (pdi_r1 rfl Γ.b_range (pda_cons (pd_callB call_len rc_len rfl Γ.b_len rfl (pda_cons (pd_varF 0) pda_nil)) pda_nil)) (blkOk_by (by kernel_rfl)) rfl (fun _ _ _ _ _ => (pdg_name 9 sc.nd rfl (by first | exact Or.inl rfl | exact Or.inr rfl))) (by decide) (fun _ _ _ _ _ => pdts_nil) (fun _ _ _ _ _ => (pd_op op_addAll ro_add (pd_varF 8) (pd_tup (pda_cons (pd_varF 9) pda_nil)))))))))) (pdss_cons (pds_set (i := 6) sc.nd rfl (by first | exact Or.inl rfl | exact Or.inr rfl) (pd_varF 7)) (pdss_one (pds_for hp rfl (pdi_seq (pd_ifExp (pdt_cmp (op_eqD hr.units) ro_eq (pd_op op_mod ro_int (pd_callTy call_int1 rc_int rfl Γ.b_int rfl (pda_cons (pd_varF 4) pda_nil)) (pd_varF 3)) pd_int (nomark _)) (pd_varF 6) (pd_lst pda_nil))) (pdg_name 8 sc.nd rfl (by first | exact Or.inl rfl | exact Or.inr rfl)) (pdss_one (pds_if (pdt_cmp (op_neD hr.units) ro_ne (pd_fz (pn_lc (own := [("state", 10)]) (g := (gName 10)) rfl sc.nd (pdi_seq (pd_varF 5)) (blkOk_by (by kernel_rfl)) rfl (fun _ _ _ _ _ => (pdg_name 10 sc.nd rfl (by first | exact Or.inl rfl | exact Or.inr rfl))) (by decide) (fun _ _ _ _ _ => (pdts_one (pdt_cmp op_gt ro_boo0 (pd_call dm__law_rounds (ok__law_rounds Γ) (hr.mono (by decide)) rfl Γ.m__law_rounds Γ.F__law_rounds.kp (b__law_rounds Γ.F__law_rounds) takes0 (pda_cons (pd_varF 0) (pda_cons (pd_varF 10) (pda_cons (pd_varF 8) pda_nil)))) pd_int (nomark _)))) (fun _ _ _ _ _ => (pd_varF 10)))) (pd_lst pda_nil) (nomark _)) (pdss_one (pds_ret pd_bool)) pdss_nil)))))))) (pdss_one (pds_ret pd_bool))))
  unfold dc__law_goes at h
  exact ⟨_, der.run, body_of2 h der.mono⟩
theorem sc__law_wrong_right : FnScope ["machine", "tables", "first", "loss", "modulus", "length", "told", "one", "other"] ["machine", "tables", "first", "loss", "modulus"] (defScope s__law_wrong_right) := ⟨rfl, rfl, rfl, by decide +kernel, rfl, by decide +kernel, by decide +kernel⟩
theorem ok__law_wrong_right (Γ : G K mg C_Machine) : FnOk P w K mg base (L2.CX P w) 8 Γ.f__law_wrong_right Γ.fd__law_wrong_right ["machine", "tables", "first", "loss", "modulus"] (spD K 5 (dc__law_wrong_right C_Machine)) := by
  have sc := sc__law_wrong_right
  refine FunD.ok Γ.F__law_wrong_right sc (fun _ _ _ _ h => h.1) fun cdv A outer s H vs Q E hr h => ?_
  have tk : Takes (cxOf (L2.CX P w) P w K mg base ["machine", "tables", "first", "loss", "modulus", "length", "told", "one", "other"] "_law_wrong_right" (defScope s__law_wrong_right) Γ.f__law_wrong_right cdv A outer s H E) (fun cls d _ H => E cls d H) := takes_of rfl rfl rfl rfl
  have hp : PassesOwn (model P w) (cxOf (L2.CX P w) P w K mg base ["machine", "tables", "first", "loss", "modulus", "length", "told", "one", "other"] "_law_wrong_right" (defScope s__law_wrong_right) Γ.f__law_wrong_right cdv A outer s H E).A (cxOf (L2.CX P w) P w K mg base ["machine", "tables", "first", "loss", "modulus", "length", "told", "one", "other"] "_law_wrong_right" (defScope s__law_wrong_right) Γ.f__law_wrong_right cdv A outer s H E).env (cxOf (L2.CX P w) P w K mg base ["machine", "tables", "first", "loss", "modulus", "length", "told", "one", "other"] "_law_wrong_right" (defScope s__law_wrong_right) Γ.f__law_wrong_right cdv A outer s H E).xe := passes_of rfl
  have der : PDSs (cxOf (L2.CX P w) P w K mg base ["machine", "tables", "first", "loss", "modulus", "length", "told", "one", "other"] "_law_wrong_right" (defScope s__law_wrong_right) Γ.f__law_wrong_right cdv A outer s H E) (fun cls d _ H => E cls d H) (defBody s__law_wrong_right) (ds__law_wrong_right C_Machine) :=
    (pdss_cons (pds_for hp rfl (pdi_r1 rfl Γ.b_range (pda_cons pd_int pda_nil)) (pdg_name 5 sc.nd rfl (by first | exact Or.inl rfl | exact Or.inr rfl)) (pdss_cons (pds_set (i := 6) sc.nd rfl (by first | exact Or.inl rfl | exact Or.inr rfl) (pd_call dm_turned_rows (ok_turned_rows Γ) (hr.mono (by decide)) rfl Γ.m_turned_rows Γ.F_turned_rows.kp (b_turned_rows Γ.F_turned_rows) tk (pda_cons (pd_varF 0) (pda_cons (pd_varF 2) (pda_cons (pd_varF 5) (pda_cons (pd_varF 3) (pda_cons (pd_varF 4) pda_nil))))))) (pdss_cons (pds_if (pdt_w (pdw_or (pdt_not (pdt_val (pd_isT rfl Γ.b_isinstance rfl Γ.b_tuple rfl (pd_varF 6)))) (pdw_or1 (pdt_cmp (op_neD hr.units) ro_ne (pd_callB call_len rc_len rfl Γ.b_len rfl (pda_cons (pd_varF 6) pda_nil)) pd_int (nomark _))))) (pdss_one (pds_ret pd_bool)) pdss_nil) (pdss_cons (pds_asg (pd_varF 6) (pdg_tup rfl (pdgs_cons (pdg_name 7 sc.nd rfl (by first | exact Or.inl rfl | exact Or.inr rfl)) (pdgs_cons (pdg_name 8 sc.nd rfl (by first | exact Or.inl rfl | exact Or.inr rfl)) pdgs_nil)))) (pdss_cons (pds_if (pdt_w (pdw_or (pdt_cmp (op_neD hr.units) ro_ne (pd_slice (pd_varF 8) pdo_none (pdo_some (pd_callB call_len rc_len rfl Γ.b_len rfl (pda_cons (pd_varF 7) pda_nil)))) (pd_varF 7) (nomark _)) (pdw_or1 (pdt_not (pdt_chain op_le ro_boo0 op_le ro_boo0 pd_int (pd_op op_sub ro_int0 (pd_callB call_len rc_len rfl Γ.b_len rfl (pda_cons (pd_varF 8) pda_nil)) (pd_callB call_len rc_len rfl Γ.b_len rfl (pda_cons (pd_varF 7) pda_nil))) (pd_varF 3)))))) (pdss_one (pds_ret pd_bool)) pdss_nil) (pdss_cons (pds_if (pdt_w (pdw_or (pdt_cmp (op_neD hr.units) ro_ne (pd_slice (pd_varF 7) (pdo_some (pd_callB (call_max2 rfl) rc_max rfl Γ.b_max rfl (pda_cons pd_int (pda_cons (pd_op op_sub ro_int0 (pd_callB call_len rc_len rfl Γ.b_len rfl (pda_cons (pd_varF 7) pda_nil)) (pd_varF 5)) pda_nil)))) pdo_none) (pd_slice (pd_varF 8) (pdo_some (pd_callB (call_max2 rfl) rc_max rfl Γ.b_max rfl (pda_cons pd_int (pda_cons (pd_op op_sub ro_int0 (pd_callB call_len rc_len rfl Γ.b_len rfl (pda_cons (pd_varF 8) pda_nil)) (pd_varF 5)) pda_nil)))) pdo_none) (nomark _)) (pdw_or1 (pdt_cmp op_lt ro_boo0 (pd_callB call_len rc_len rfl Γ.b_len rfl (pda_cons (pd_varF 7) pda_nil)) (pd_varF 5) (nomark _))))) (pdss_one (pds_ret pd_bool)) pdss_nil) (pdss_one (pds_if (pdt_w (pdw_or (pdt_cmp (op_neD hr.units) ro_ne (pd_op op_mod ro_int (pd_callTy call_int1 rc_int rfl Γ.b_int rfl (pda_cons (pd_op op_sub ro_int0 (pd_callB call_len rc_len rfl Γ.b_len rfl (pda_cons (pd_varF 8) pda_nil)) (pd_callB call_len rc_len rfl Γ.b_len rfl (pda_cons (pd_varF 7) pda_nil))) pda_nil)) (pd_varF 4)) pd_int (nomark _)) (pdw_or1 (pdt_cmp (op_eqD hr.units) ro_eq (pd_call dm__law_led (ok__law_led Γ) (hr.mono (by decide)) rfl Γ.m__law_led Γ.F__law_led.kp (b__law_led Γ.F__law_led) tk (pda_cons (pd_varF 1) (pda_cons (pd_varF 2) (pda_cons (pd_varF 7) pda_nil)))) (pd_call dm__law_led (ok__law_led Γ) (hr.mono (by decide)) rfl Γ.m__law_led Γ.F__law_led.kp (b__law_led Γ.F__law_led) tk (pda_cons (pd_varF 1) (pda_cons (pd_varF 2) (pda_cons (pd_varF 8) pda_nil)))) (nomark _))))) (pdss_one (pds_ret pd_bool)) pdss_nil)))))))) (pdss_one (pds_ret pd_bool)))
  unfold dc__law_wrong_right at h
  exact ⟨_, der.run, body_of2 h der.mono⟩
theorem sc_Machine___init__ : FnScope ["self", "tables"] ["self", "tables"] (defScope s_Machine___init__) := ⟨rfl, rfl, rfl, by decide +kernel, rfl, by decide +kernel, by decide +kernel⟩
theorem ok_Machine___init__ (Γ : G K mg C_Machine) : FnOk P w K mg base (L2.CX P w) 6 Γ.f_Machine___init__ Γ.fd_Machine___init__ ["self", "tables"] (spD K 2 (dc_Machine___init__ C_Machine)) := by
  have sc := sc_Machine___init__
  refine FunD.ok Γ.F_Machine___init__ sc (fun _ _ _ _ h => h.1) fun cdv A outer s H vs Q E hr h => ?_
  have tk : Takes (cxOf (L2.CX P w) P w K mg base ["self", "tables"] "Machine.__init__" (defScope s_Machine___init__) Γ.f_Machine___init__ cdv A outer s H E) (fun cls d _ H => E cls d H) := takes_of rfl rfl rfl rfl
  have hp : PassesOwn (model P w) (cxOf (L2.CX P w) P w K mg base ["self", "tables"] "Machine.__init__" (defScope s_Machine___init__) Γ.f_Machine___init__ cdv A outer s H E).A (cxOf (L2.CX P w) P w K mg base ["self", "tables"] "Machine.__init__" (defScope s_Machine___init__) Γ.f_Machine___init__ cdv A outer s H E).env (cxOf (L2.CX P w) P w K mg base ["self", "tables"] "Machine.__init__" (defScope s_Machine___init__) Γ.f_Machine___init__ cdv A outer s H E).xe := passes_of rfl
  have der : PDSs (cxOf (L2.CX P w) P w K mg base ["self", "tables"] "Machine.__init__" (defScope s_Machine___init__) Γ.f_Machine___init__ cdv A outer s H E) (fun cls d _ H => E cls d H) (defBody s_Machine___init__) (ds_Machine___init__ C_Machine) :=
    (pdss_cons (pds_fld 0 Γ.cls_Machine Γ.na_Machine_tables (pd_call dm_check_tables (ok_check_tables Γ) (hr.mono (by decide)) rfl Γ.m_check_tables Γ.F_check_tables.kp (b_check_tables Γ.F_check_tables) tk (pda_cons (pd_varF 1) pda_nil))) (pdss_cons (pds_fld 0 Γ.cls_Machine Γ.na_Machine_deeds (pd_callB call_len rc_len rfl Γ.b_len rfl (pda_cons (pd_fldS 0 Γ.cls_Machine Γ.na_Machine_tables) pda_nil))) (pdss_one (pds_fld 0 Γ.cls_Machine Γ.na_Machine_states (pd_callB call_len rc_len rfl Γ.b_len rfl (pda_cons (pd_ix (pd_fldS 0 Γ.cls_Machine Γ.na_Machine_tables) pd_int (fun _ _ => rfl)) pda_nil))))))
  unfold dc_Machine___init__ at h
  exact ⟨_, der.run, body_of2 h der.mono⟩
theorem sc_law : FnScope ["script", "k", "box", "tables", "turn", "loss", "modulus", "machine", "first", "told", "goes", "states", "length"] ["script"] (defScope s_law) := ⟨rfl, rfl, rfl, by decide +kernel, rfl, by decide +kernel, by decide +kernel⟩
theorem ok_law (Γ : G K mg C_Machine) : FnOkG P w K mg base (L2.CX P w) 9 Γ.f_law Γ.fd_law ["script"] (spD K 1 (dc_law C_Machine)) := by
  have sc := sc_law
  refine okG_of Γ.F_law sc (fun _ _ _ _ h => h.1) fun cdv A outer s H vs Q E hgd hr h => ?_
  have tk : Takes (cxOf (L2.CX P w) P w K mg base ["script", "k", "box", "tables", "turn", "loss", "modulus", "machine", "first", "told", "goes", "states", "length"] "law" (defScope s_law) Γ.f_law cdv A outer s H E) (fun cls d _ H => E cls d H) := takes_of rfl rfl rfl rfl
  have hp : PassesOwn (model P w) (cxOf (L2.CX P w) P w K mg base ["script", "k", "box", "tables", "turn", "loss", "modulus", "machine", "first", "told", "goes", "states", "length"] "law" (defScope s_law) Γ.f_law cdv A outer s H E).A (cxOf (L2.CX P w) P w K mg base ["script", "k", "box", "tables", "turn", "loss", "modulus", "machine", "first", "told", "goes", "states", "length"] "law" (defScope s_law) Γ.f_law cdv A outer s H E).env (cxOf (L2.CX P w) P w K mg base ["script", "k", "box", "tables", "turn", "loss", "modulus", "machine", "first", "told", "goes", "states", "length"] "law" (defScope s_law) Γ.f_law cdv A outer s H E).xe := passes_of rfl
  have der : PDSs (cxOf (L2.CX P w) P w K mg base ["script", "k", "box", "tables", "turn", "loss", "modulus", "machine", "first", "told", "goes", "states", "length"] "law" (defScope s_law) Γ.f_law cdv A outer s H E) (fun cls d _ H => E cls d H) (defBody s_law) (ds_law C_Machine) :=
    (pdss_cons (pds_for hp rfl (pdi_r1 rfl Γ.b_range (pda_cons pd_int pda_nil)) (pdg_name 1 sc.nd rfl (by first | exact Or.inl rfl | exact Or.inr rfl)) (pdss_cons (pds_own (i := 2) sc.nd rfl (by first | exact Or.inl rfl | exact Or.inr rfl) (pn_call dm__law_box (ok__law_box Γ) (hr.mono (by decide)) rfl Γ.m__law_box Γ.F__law_box.kp (b__law_box Γ.F__law_box) tk (pda_cons (pd_varF 0) (pda_cons (pd_varF 1) pda_nil)))) (pdss_cons (pds_set (i := 3) sc.nd rfl (by first | exact Or.inl rfl | exact Or.inr rfl) (pd_slice (pd_call dm__law_tables (ok__law_tables Γ) (hr.mono (by decide)) rfl Γ.m__law_tables Γ.F__law_tables.kp (b__law_tables Γ.F__law_tables) tk (pda_bor 2 (pda_cons pd_int pda_nil))) pdo_none (pdo_some pd_int))) (pdss_cons (pds_for hp rfl (pdi_r1 rfl Γ.b_range (pda_cons pd_int pda_nil)) (pdg_name 4 sc.nd rfl (by first | exact Or.inl rfl | exact Or.inr rfl)) (pdss_one (pds_set (i := 3) sc.nd rfl (by first | exact Or.inl rfl | exact Or.inr rfl) (pd_ifExp (pdt_cmp (op_eqD hr.units) ro_eq (pd_callB call_len rc_len rfl Γ.b_len rfl (pda_cons (pd_ix (pd_varF 3) pd_int (fun _ _ => rfl)) pda_nil)) pd_int (nomark _)) (pd_slice (pd_call dm__law_tables (ok__law_tables Γ) (hr.mono (by decide)) rfl Γ.m__law_tables Γ.F__law_tables.kp (b__law_tables Γ.F__law_tables) tk (pda_bor 2 (pda_cons pd_int pda_nil))) pdo_none (pdo_some pd_int)) (pd_varF 3))))) (pdss_cons (pds_par2 (i := 7) (j := 8) rfl sc.nd rfl rfl (by decide) rfl rfl (pm_d (pd_fz (pn_make Γ.mk_Machine dm_Machine___init__ (ok_Machine___init__ Γ) (hr.mono (by decide)) rfl Γ.mc_Machine (b_Machine___init__ Γ.F_Machine___init__) (pda_cons (pd_varF 3) pda_nil))) (pm_d (pd_call dm__law_take (ok__law_take Γ) (hr.mono (by decide)) rfl Γ.m__law_take Γ.F__law_take.kp (b__law_take Γ.F__law_take) tk (pda_bor 2 (pda_cons (pd_callB call_len rc_len rfl Γ.b_len rfl (pda_cons (pd_ix (pd_varF 3) pd_int (fun _ _ => rfl)) pda_nil)) pda_nil))) pm_nil)) (by rfl)) (pdss_cons (pds_set (i := 5) sc.nd rfl (by first | exact Or.inl rfl | exact Or.inr rfl) (pd_ifExp (pdt_cmp op_gt ro_boo0 (pd_call dm__law_take (ok__law_take Γ) (hr.mono (by decide)) rfl Γ.m__law_take Γ.F__law_take.kp (b__law_take Γ.F__law_take) tk (pda_bor 2 (pda_cons pd_int pda_nil))) pd_int (nomark _)) (pd_op op_addAll ro_add pd_int (pd_call dm__law_take (ok__law_take Γ) (hr.mono (by decide)) rfl Γ.m__law_take Γ.F__law_take.kp (b__law_take Γ.F__law_take) tk (pda_bor 2 (pda_cons (pd_ix (pd_lst (pda_cons pd_int (pda_cons pd_int (pda_cons pd_int pda_nil)))) (pd_callB call_len rc_len rfl Γ.b_len rfl (pda_cons (pd_varF 3) pda_nil)) (fun _ _ => rfl)) pda_nil)))) pd_int)) (pdss_cons (pds_set (i := 6) sc.nd rfl (by first | exact Or.inl rfl | exact Or.inr rfl) (pd_op op_addAll ro_add pd_int (pd_call dm__law_take (ok__law_take Γ) (hr.mono (by decide)) rfl Γ.m__law_take Γ.F__law_take.kp (b__law_take Γ.F__law_take) tk (pda_bor 2 (pda_cons (pd_ifExp (pdt_cmp op_lt ro_boo0 (pd_callB call_len rc_len rfl Γ.b_len rfl (pda_cons (pd_ix (pd_varF 3) pd_int (fun _ _ => rfl)) pda_nil)) pd_int (nomark _)) pd_int pd_int) pda_nil))))) (pdss_cons (pds_par2 (i := 9) (j := 10) rfl sc.nd rfl rfl (by decide) rfl rfl (pm_d (pd_call dm_turn_paper (ok_turn_paper Γ) (hr.mono (by decide)) rfl Γ.m_turn_paper Γ.F_turn_paper.kp (b_turn_paper Γ.F_turn_paper) tk (pda_cons (pd_varF 7) (pda_cons (pd_varF 8) (pda_cons (pd_varF 5) (pda_cons (pd_varF 6) pda_nil))))) (pm_d (pd_call dm__law_goes (ok__law_goes Γ) (hr.mono (by decide)) rfl Γ.m__law_goes Γ.F__law_goes.kp (b__law_goes Γ.F__law_goes) tk (pda_cons (pd_varF 3) (pda_cons (pd_varF 8) (pda_cons (pd_varF 5) (pda_cons (pd_varF 6) pda_nil))))) pm_nil)) (by rfl)) (pdss_cons (pds_if (pdt_cmp (op_neD hr.units) ro_ne (pd_callB (call_reprD hgd hr) rc_repr rfl Γ.b_repr rfl (pda_cons (pd_lst (pda_cons (pd_cmp (op_inB hr) ro_in (pd_varF 6) (pd_call dm_good_moduli (ok_good_moduli Γ) (hr.mono (by decide)) rfl Γ.m_good_moduli Γ.F_good_moduli.kp (b_good_moduli Γ.F_good_moduli) tk (pda_cons (pd_varF 7) (pda_cons (pd_varF 8) (pda_cons (pd_varF 5) pda_nil)))) (by first | exact nobehind _ (by decide) (by decide) | rfl)) (pda_cons (pd_cmp op_isN ro_isN (pd_varF 9) pd_none (nomark _)) pda_nil))) pda_nil)) (pd_callB (call_reprD hgd hr) rc_repr rfl Γ.b_repr rfl (pda_cons (pd_lst (pda_cons (pd_not (pd_varF 10)) (pda_cons (pd_not (pd_varF 10)) pda_nil))) pda_nil)) (nomark _)) (pdss_one (pds_ret pd_bool)) pdss_nil) (pdss_one (pds_if (pdt_not (pdt_val (pd_varF 10))) (pdss_cons (pds_set (i := 11) sc.nd rfl (by first | exact Or.inl rfl | exact Or.inr rfl) (pd_callB call_len rc_len rfl Γ.b_len rfl (pda_cons (pd_ix (pd_call dm__law_come (ok__law_come Γ) (hr.mono (by decide)) rfl Γ.m__law_come Γ.F__law_come.kp (b__law_come Γ.F__law_come) tk (pda_cons (pd_varF 3) (pda_cons (pd_varF 8) pda_nil))) pd_int (fun _ _ => rfl)) pda_nil))) (pdss_one (pds_if (pdt_not (pdt_val (pd_call dm__law_is_right (ok__law_is_right Γ) (hr.mono (by decide)) rfl Γ.m__law_is_right Γ.F__law_is_right.kp (b__law_is_right Γ.F__law_is_right) tk (pda_cons (pd_varF 3) (pda_cons (pd_varF 8) (pda_cons (pd_callB (call_max2 rfl) rc_max rfl Γ.b_max rfl (pda_cons (pd_varF 5) (pda_cons (pd_op op_mulAll ro_mul (pd_varF 5) (pd_op op_sub ro_int0 (pd_varF 11) pd_int)) pda_nil))) (pda_cons (pd_varF 5) (pda_cons (pd_varF 6) pda_nil)))))))) (pdss_one (pds_ret pd_bool)) pdss_nil))) (pdss_cons (pds_if (pdt_not (pdt_val (pd_call dm__law_wrong_right (ok__law_wrong_right Γ) (hr.mono (by decide)) rfl Γ.m__law_wrong_right Γ.F__law_wrong_right.kp (b__law_wrong_right Γ.F__law_wrong_right) tk (pda_cons (pd_varF 7) (pda_cons (pd_varF 3) (pda_cons (pd_varF 8) (pda_cons (pd_varF 5) (pda_cons (pd_varF 6) pda_nil)))))))) (pdss_one (pds_ret pd_bool)) pdss_nil) (pdss_cons (pds_set (i := 12) sc.nd rfl (by first | exact Or.inl rfl | exact Or.inr rfl) (pd_call dm__law_take (ok__law_take Γ) (hr.mono (by decide)) rfl Γ.m__law_take Γ.F__law_take.kp (b__law_take Γ.F__law_take) tk (pda_bor 2 (pda_cons pd_int pda_nil)))) (pdss_one (pds_if (pdt_val (pd_call dm__law_is_right (ok__law_is_right Γ) (hr.mono (by decide)) rfl Γ.m__law_is_right Γ.F__law_is_right.kp (b__law_is_right Γ.F__law_is_right) tk (pda_cons (pd_varF 3) (pda_cons (pd_varF 8) (pda_cons (pd_varF 12) (pda_cons (pd_varF 5) (pda_cons (pd_varF 6) pda_nil))))))) (pdss_one (pds_ret pd_bool)) pdss_nil))))))))))))))) (pdss_one (pds_ret pd_bool)))
  unfold dc_law at h
  exact ⟨_, der.run, body_of2 h der.mono⟩
end
end DL.K18
local macro_rules
  | `(tactic| bv_omega) => `(tactic| (repeat (first | with_reducible (first | refine DL.w_seq ?_ | refine DL.w_next ?_ | refine DL.w_break ?_ | refine DL.w_cont ?_ | refine DL.w_ret ?_ | refine DL.w_retN ?_ | refine DL.w_if ?_ | refine DL.w_asg ?_ | refine DL.w_own ?_ | refine DL.w_drop ?_ | refine DL.w_par ?_ | refine DL.w_for ?_ | refine DL.w_iteT ?_ | refine DL.w_iteNT ?_ | refine DL.w_iteNF ?_ | refine DL.w_iteF ?_ | refine DL.w_gname ?_ | refine DL.w_gcons ?_ | refine DL.w_gnil ?_ | refine DL.w_c ?_ | refine DL.w_op ?_ | refine DL.w_and ?_ | refine DL.w_or ?_ | refine DL.w_not ?_ | refine DL.w_neg ?_ | refine DL.w_ifE ?_ | refine DL.w_chain ?_ | refine DL.w_asB ?_ | refine DL.w_tup ?_ | refine DL.w_lst ?_ | refine DL.w_nlst ?_ | refine DL.w_allN ?_ | refine DL.w_allD ?_ | refine DL.w_anil ?_ | refine DL.w_acons ?_ | refine DL.w_aapp ?_ | refine DL.w_fz ?_ | refine DL.w_nC ?_ | refine DL.w_d1K ?_ | refine DL.w_d1T ?_ | refine DL.w_is ?_ | refine DL.w_mnil ?_ | refine DL.w_md ?_ | refine DL.w_mn ?_ | refine DL.w_inS ?_ | refine DL.w_notinS ?_ | refine DL.w_in ?_ | refine DL.w_notin ?_ | refine DL.w_inSN ?_ | refine DL.w_notinSN ?_ | refine DL.w_inN ?_ | refine DL.w_notinN ?_ | refine DL.w_getN ?_ | refine DL.w_attr ?_ | refine DL.w_slice ?_ | refine DL.w_on ?_ | refine DL.w_os ?_ | refine DL.w_slT ?_ | refine DL.w_slL ?_ | refine DL.w_call ?_ | refine DL.w_ncall ?_ | refine DL.w_callK ?_ | refine DL.w_make ?_ | refine DL.w_fld ?_ | refine DL.w_eB ?_ | refine DL.w_bV ?_ | refine DL.w_bAnd ?_ | refine DL.w_bOr ?_ | refine DL.w_bNot ?_ | refine DL.w_bYes ?_ | refine DL.w_addI ?_ | refine DL.w_dI0 ?_ | refine DL.w_eqI ?_ | refine DL.w_neI ?_ | refine DL.w_isN ?_ | refine DL.w_isB ?_ | refine DL.w_lenL ?_ | refine DL.w_lenT ?_ | refine DL.w_lenR ?_ | refine DL.w_abs ?_ | refine DL.w_int ?_ | refine DL.w_min ?_ | refine DL.w_max ?_ | refine DL.w_tupL ?_ | refine DL.w_tupT ?_ | refine DL.w_lstD ?_ | refine DL.w_iseq ?_ | refine DL.w_sqL ?_ | refine DL.w_sqT ?_ | refine DL.w_ien ?_ | refine DL.w_izp ?_ | refine DL.w_ir1' ?_ | refine DL.w_ir2' ?_ | refine DL.w_itn ?_) | with_reducible (first | refine DL.w_retS (by with_unfolding_all rfl) ?_ | refine DL.w_owL (by with_unfolding_all rfl) ?_ | refine DL.w_owC (by with_unfolding_all rfl) ?_ | refine DL.w_aug (by with_unfolding_all rfl) ?_ | refine DL.w_var (by with_unfolding_all rfl) ?_ | refine DL.w_varO (by with_unfolding_all rfl) ?_ | refine DL.w_ixS (by with_unfolding_all rfl) ?_ | refine DL.w_ofL (by with_unfolding_all rfl) ?_ | refine DL.w_getS (by with_unfolding_all rfl) ?_ | refine DL.w_gsubN (by with_unfolding_all rfl) ?_ | refine DL.w_getSN (by with_unfolding_all rfl) ?_ | refine DL.w_setdN (by with_unfolding_all rfl) ?_ | refine DL.w_abor (by with_unfolding_all rfl) ?_ | refine DL.w_gsub (by with_unfolding_all rfl) ?_ | refine DL.w_gtup (by with_unfolding_all rfl) ?_ | refine DL.w_and3 (by with_unfolding_all rfl) (by with_unfolding_all rfl) ?_ | refine DL.w_and3K (by with_unfolding_all rfl) (by with_unfolding_all rfl) ?_ | refine DL.w_fldS (by with_unfolding_all rfl) ?_ | refine DL.w_attr2 (by with_unfolding_all rfl) ?_ | refine DL.w_exA (by with_unfolding_all rfl) ?_ | refine DL.w_put (by with_unfolding_all rfl) ?_ | refine DL.w_app (by with_unfolding_all rfl) ?_) | with_reducible refine DL.w_len0 (by dsimp only [List.length_cons, List.length_nil]; omega) ?_ | dsimp only [DL.Rv.toD, DL.Ct.d, DL.putOuts, DL.lend, DL.lentOf, DL.postF, DL.outsF, DL.fill, DL.setItms, Bool.not_true, Bool.not_false, Bool.not_not, List.cons_append, List.nil_append, List.append_nil])))
set_option Elab.async false
set_option linter.all false
set_option maxRecDepth 100000
set_option maxHeartbeats 4000000
namespace DL.K18
open PySem L2 Evl DL
section
variable {C : Addr} {XX : Exn → List Sl → Prop} {R : Rv → List Sl → Prop}
/-! ### words -/
theorem isTy_int_int {i : Int} : isTy "int" (.int i) = some true := by show subTy "int" "int" = some true; decide
theorem isTy_bool_int {i : Int} : isTy "bool" (.int i) = some false := by show subTy "int" "bool" = some false; decide
theorem isTy2_tup {xs : List D} : isTy2 "list" "tuple" (.tuple xs) = some true := by show (subTy "tuple" "list").bind (fun b => (subTy "tuple" "tuple").map fun c => b || c) = some true; decide
theorem isTy2_lst {xs : List D} : isTy2 "list" "tuple" (.list xs) = some true := by show (subTy "list" "list").bind (fun b => (subTy "list" "tuple").map fun c => b || c) = some true; decide
theorem is_integer_ok {i : Int} (h : R (.d (.bool true)) [.un]) : dc_is_integer C [.fz (.int i)] XX R := by
  refine di_is_integer ?_
  unfold ds_is_integer
  bv_omega
  refine w_ofS isTy_int_int ?_
  bv_omega
  refine w_ofS isTy_bool_int ?_
  bv_omega
  exact h
theorem is_number_ok {i : Int} (h : R (.d (.bool (decide (0 ≤ i)))) [.un]) : dc_is_number C [.fz (.int i)] XX R := by
  refine di_is_number ?_
  unfold ds_is_number
  bv_omega
  refine is_integer_ok ?_
  bv_omega
  exact h
theorem is_below_ok {i m : Int} (h : R (.d (.bool (decide (0 ≤ i) && decide (i < m)))) [.un, .un]) : dc_is_below C [.fz (.int i), .fz (.int m)] XX R := by
  refine di_is_below ?_
  unfold ds_is_below
  bv_omega
  refine is_number_ok ?_
  bv_omega
  by_cases q : 0 ≤ i
  · refine w_iteT' (decide_eq_true q) ?_
    bv_omega
    rw [decide_eq_true q, Bool.true_and] at h
    exact h
  · refine w_iteF' (decide_eq_false q) ?_
    bv_omega
    rw [decide_eq_false q, Bool.false_and] at h
    exact h
theorem is_within_ok {i a b : Int} (h : R (.d (.bool (decide (a ≤ i) && decide (i ≤ b)))) [.un, .un, .un]) : dc_is_within C [.fz (.int i), .fz (.int a), .fz (.int b)] XX R := by
  refine di_is_within ?_
  unfold ds_is_within
  bv_omega
  refine is_integer_ok ?_
  bv_omega
  by_cases q : a ≤ i
  · refine w_iteT' (decide_eq_true q) ?_
    bv_omega
    rw [decide_eq_true q, Bool.true_and] at h
    exact h
  · refine w_iteF' (decide_eq_false q) ?_
    bv_omega
    rw [decide_eq_false q, Bool.false_and] at h
    exact h
theorem is_sequence_tup {xs : List D} (h : R (.d (.bool true)) [.un]) : dc_is_sequence C [.fz (.tuple xs)] XX R := by
  refine di_is_sequence ?_
  unfold ds_is_sequence
  bv_omega
  refine w_ofS isTy2_tup ?_
  bv_omega
  exact h
end
end DL.K18
namespace DL.K18
open PySem L2 Evl DL
/-! ### tables -/
abbrev nD (n : Nat) : D := .int (n : Int)
abbrev rowD (r : List Nat) : D := .tuple (r.map nD)
abbrev tabD (T : List (List Nat)) : D := .tuple (T.map rowD)
abbrev macD (C : Addr) (T : List (List Nat)) (n : Nat) : D := .ob C lay_Machine [tabD T, nD T.length, nD n]
/-- 1 to 4 tables over n states, 1 to 8 of them -/
structure Tab (T : List (List Nat)) (n : Nat) : Prop where
  n1 : 1 ≤ n
  n8 : n ≤ 8
  t1 : 1 ≤ T.length
  t4 : T.length ≤ 4
  len : ∀ r ∈ T, r.length = n
  lt : ∀ r ∈ T, ∀ x ∈ r, x < n
section
variable {C : Addr} {XX : Exn → List Sl → Prop} {R : Rv → List Sl → Prop}
theorem asBools_rep (k : Nat) (b : Bool) : asBools (List.replicate k (.bool b)) = some (List.replicate k b) := by
  have := asBools_map (List.replicate k b)
  rwa [List.map_replicate] at this
theorem map_const_mem {α : Type} (xs : List α) (g : α → D) : (xs.map g).map (fun _ => D.bool true) = List.replicate xs.length (.bool true) := by
  induction xs with
  | nil => rfl
  | cons x xs ih => simp [ih, List.replicate_succ]
theorem all_rep (k : Nat) : (List.replicate k true).all id = true := by
  rw [List.all_eq_true]; intro x hx; rw [(List.mem_replicate.mp hx).2]; rfl
theorem is_table_ok {r : List Nat} {n : Nat} (hl : r.length = n) (hn : n ≤ 1000) (hx : ∀ x ∈ r, x < n) (h : R (.d (.bool true)) [.un, .un]) : dc_is_table C [.fz (rowD r), .fz (nD n)] XX R := by
  refine di_is_table ?_
  unfold ds_is_table
  bv_omega
  refine is_sequence_tup ?_
  bv_omega
  refine w_iteT' ?_ ?_
  · simp [nD, hl]
  bv_omega
  refine w_nlc ?_
  bv_omega
  refine ⟨by simp [hl]; omega, ?_⟩
  refine lcL_map (fun _ => .bool true) (fun d hd K hK => ?_) ?_
  · obtain ⟨x, hxr, rfl⟩ := List.mem_map.mp hd
    bv_omega
    refine is_below_ok ?_
    have h1 : (0 : Int) ≤ x := by omega
    have h2 : (x : Int) < n := by have := hx x hxr; omega
    rw [decide_eq_true h1, decide_eq_true h2]
    bv_omega
    exact hK _ rfl
  · rw [List.nil_append, map_const_mem]
    bv_omega
    refine w_all (asBools_rep _ _) ?_
    rw [all_rep]
    exact h
theorem atI_map {α : Type} (xs : List α) (g : α → D) {i : Nat} {x : α} (h : xs[i]? = some x) : atI (xs.map g) (i : Int) = some (g x) := by
  have hi : i < xs.length := (List.getElem?_eq_some_iff.mp h).1
  unfold atI
  rw [ixN_nat (by simpa using hi)]
  simp [h]
theorem Tab.at {T : List (List Nat)} {n : Nat} (t : Tab T n) {d s : Nat} (hd : d < T.length) (hs : s < n) : ∃ r x, T[d]? = some r ∧ r[s]? = some x ∧ x < n ∧ r.length = n := by
  have h1 : T[d]? = some T[d] := by simp [hd]
  have m1 : T[d] ∈ T := List.getElem_mem hd
  have l1 := t.len _ m1
  have hs' : s < T[d].length := by omega
  exact ⟨T[d], T[d][s], h1, by simp [hs'], t.lt _ m1 _ (List.getElem_mem hs'), l1⟩
theorem check_tables_ok {T : List (List Nat)} {n : Nat} (t : Tab T n) (h : R (.d (tabD T)) [.un]) : dc_check_tables C [.fz (tabD T)] XX R := by
  obtain ⟨r0, x0, hr0, _, _, hl0⟩ := t.at (d := 0) (s := 0) (by have := t.t1; omega) (by have := t.n1; omega)
  have h1 := t.t1
  have h2 := t.t4
  have h3 := t.n1
  have h4 := t.n8
  refine di_check_tables ?_
  unfold ds_check_tables
  bv_omega
  refine is_sequence_tup ?_
  bv_omega
  have e1 : decide ((1 : Int) ≤ ((T.map rowD).length : Int)) = true := decide_eq_true (by simp; omega)
  have e2 : decide (((T.map rowD).length : Int) ≤ 4) = true := decide_eq_true (by simp; omega)
  have a0 : atI (T.map rowD) ((0 : Nat) : Int) = some (rowD r0) := atI_map T rowD hr0
  refine w_iteT' e1 ?_
  bv_omega
  rw [e2]
  bv_omega
  refine w_ixT a0 ?_
  bv_omega
  refine is_sequence_tup ?_
  bv_omega
  refine w_ixT a0 ?_
  bv_omega
  have nk : ∀ {d : D} {ds : List D} {k : Nat} {rest : List (List Nat)}, d :: ds = enumD k (rest.map rowD) → ∃ r rest', rest = r :: rest' ∧ d = .tuple [nD k, rowD r] ∧ ds = enumD (k + 1) (rest'.map rowD) := fun {d ds k rest} e => by
    cases rest with
    | nil => cases e
    | cons r rest' => cases e; exact ⟨r, rest', rfl, rfl, rfl⟩
  refine forL_go (I := fun ds ρ => ∃ (k : Nat) (rest : List (List Nat)) (s2 s3 : Sl), ds = enumD k (rest.map rowD) ∧ (∀ r ∈ rest, r ∈ T) ∧ ρ = [.fz (tabD T), .fz (nD n), s2, s3]) (fun d ds ρ Kx hK hI => ?_) (fun ρ hI => ?_) ⟨0, T, .un, .un, rfl, fun r h => h, by rw [← hl0, List.length_map]; rfl⟩
  · obtain ⟨k, rest, s2, s3, e, hr, rfl⟩ := hI
    obtain ⟨r, rest', rfl, rfl, rfl⟩ := nk e
    have hrT := hr r (by simp)
    bv_omega
    refine w_iteT' (decide_eq_true (by omega)) ?_
    bv_omega
    rw [decide_eq_true (show (n : Int) ≤ 8 by omega)]
    bv_omega
    refine is_table_ok (t.len r hrT) (by omega) (t.lt r hrT) ?_
    bv_omega
    exact hK _ ⟨k + 1, rest', _, _, rfl, fun x hx => hr x (by simp [hx]), rfl⟩
  · obtain ⟨k, rest, s2, s3, e, hr, rfl⟩ := hI
    bv_omega
    refine w_nlc ?_
    bv_omega
    refine ⟨by simp; omega, ?_⟩
    refine lcL_map (fun d => d) (fun d hd K hK => ?_) ?_
    · obtain ⟨r, hr, rfl⟩ := List.mem_map.mp hd
      bv_omega
      exact hK _ rfl
    · rw [List.nil_append, List.map_id']
      bv_omega
      exact h
theorem fldPut_len {f : PySem.Str} {y : D} : ∀ {lay : List PySem.Str} {xs : List D}, (fldPut f y lay xs).2.length ≤ xs.length + 1
  | [], [] => Nat.le_refl _
  | [], _ :: _ => by simp [fldPut]
  | _ :: _, [] => by simp [fldPut]
  | g :: lay, x :: xs => by
    unfold fldPut
    split
    · simp
    · have := fldPut_len (f := f) (y := y) (lay := lay) (xs := xs)
      simp; omega
theorem init_ok {T : List (List Nat)} {n : Nat} (t : Tab T n) (h : R (.d .none) [.ow true (.ins C lay_Machine [tabD T, nD T.length, nD n]), .un]) : dc_Machine___init__ C [.ow true (.ins C [] []), .fz (tabD T)] XX R := by
  obtain ⟨r0, x0, hr0, _, _, hl0⟩ := t.at (d := 0) (s := 0) (by have := t.t1; omega) (by have := t.n1; omega)
  have a0 : atI (T.map rowD) ((0 : Nat) : Int) = some (rowD r0) := atI_map T rowD hr0
  refine di_Machine___init__ ?_
  unfold ds_Machine___init__
  bv_omega
  refine check_tables_ok t ?_
  bv_omega
  refine ⟨rfl, by decide, ?_⟩
  bv_omega
  refine w_ofS (x := tabD T) rfl ?_
  bv_omega
  refine ⟨rfl, Nat.lt_of_le_of_lt fldPut_len (by decide), ?_⟩
  bv_omega
  refine w_ofS (x := tabD T) rfl ?_
  bv_omega
  refine w_ixT a0 ?_
  bv_omega
  refine ⟨rfl, Nat.lt_of_le_of_lt fldPut_len (Nat.lt_of_le_of_lt (Nat.succ_le_succ fldPut_len) (by decide)), ?_⟩
  bv_omega
  rw [List.length_map, List.length_map, hl0]
  exact h
theorem need_state_ok {T : List (List Nat)} {n s : Nat} (hs : s < n) (h : R (.d (nD s)) [.un, .un]) : dc_need_state C [.fz (macD C T n), .fz (nD s)] XX R := by
  refine di_need_state ?_
  unfold ds_need_state
  bv_omega
  refine is_below_ok ?_
  rw [decide_eq_true (show (0 : Int) ≤ s by omega), decide_eq_true (show (s : Int) < n by omega)]
  bv_omega
  exact h
theorem need_loss_ok {l : Nat} (hs : l ≤ 8) (h : R (.d (nD l)) [.un]) : dc_need_loss C [.fz (nD l)] XX R := by
  refine di_need_loss ?_
  unfold ds_need_loss
  bv_omega
  refine di_is_within_loss ?_
  unfold ds_is_within_loss
  bv_omega
  refine is_within_ok ?_
  rw [decide_eq_true (show (0 : Int) ≤ l by omega), decide_eq_true (show (l : Int) ≤ 8 by omega)]
  bv_omega
  exact h
theorem need_modulus_ok {l : Nat} (h1 : 1 ≤ l) (h9 : l ≤ 9) (h : R (.d (nD l)) [.un]) : dc_need_modulus C [.fz (nD l)] XX R := by
  refine di_need_modulus ?_
  unfold ds_need_modulus
  bv_omega
  refine is_within_ok ?_
  rw [decide_eq_true (show (1 : Int) ≤ l by omega), decide_eq_true (show (l : Int) ≤ 9 by omega)]
  bv_omega
  exact h
theorem need_turning_ok {T : List (List Nat)} {n s l m : Nat} (hs : s < n) (hl : l ≤ 8) (h1 : 1 ≤ m) (h9 : m ≤ 9) (h : R (.d .none) [.un, .un, .un, .un]) : dc_need_turning C [.fz (macD C T n), .fz (nD s), .fz (nD l), .fz (nD m)] XX R := by
  refine di_need_turning ?_
  unfold ds_need_turning
  bv_omega
  refine need_state_ok hs ?_
  bv_omega
  refine need_loss_ok hl ?_
  bv_omega
  refine need_modulus_ok h1 h9 ?_
  bv_omega
  exact h
/-! ### runs -/
def stp (T : List (List Nat)) (d s : Nat) : Nat := ((T[d]?.getD [])[s]?).getD 0
def run (T : List (List Nat)) (s : Nat) (row : List Nat) : Nat := row.foldl (fun s d => stp T d s) s
def Row (T : List (List Nat)) (row : List Nat) : Prop := ∀ d ∈ row, d < T.length
theorem stp_at {T : List (List Nat)} {n : Nat} (t : Tab T n) {d s : Nat} (hd : d < T.length) (hs : s < n) : ∃ r, T[d]? = some r ∧ r[s]? = some (stp T d s) ∧ stp T d s < n := by
  obtain ⟨r, x, h1, h2, h3, _⟩ := t.at hd hs
  have : stp T d s = x := by unfold stp; rw [h1]; simp [h2]
  exact ⟨r, h1, by rw [this]; exact h2, by rw [this]; exact h3⟩
theorem run_lt {T : List (List Nat)} {n : Nat} (t : Tab T n) : ∀ {row : List Nat} {s : Nat}, Row T row → s < n → run T s row < n
  | [], _, _, h => h
  | d :: row, s, hr, hs => run_lt t (row := row) (fun x hx => hr x (by simp [hx])) (stp_at t (hr d (by simp)) hs).choose_spec.2.2
end
end DL.K18
set_option Elab.async false
set_option linter.all false
set_option maxRecDepth 100000
set_option maxHeartbeats 4000000
namespace DL.K18
open PySem L2 Evl DL
/-! ### the law's draws -/
/-- a box of draws -/
def Box (c : Ct) : Prop := ∃ g s : Nat, c = .lst [.int g, .int s] ∧ s < 4294967296
section
variable {C : Addr} {XX : Exn → List Sl → Prop} {R : Rv → List Sl → Prop}
theorem take_ok {c : Ct} {m : Nat} (hb : Box c) (h1 : 1 ≤ m) (h2 : m ≤ 1000) (h : ∀ (v : Nat) c', v < m → Box c' → R (.d (.int v)) [.ow true c', .un]) : dc__law_take C [.ow true c, .fz (.int m)] XX R := by
  obtain ⟨g, s, rfl, hs⟩ := hb
  refine di__law_take ?_
  unfold ds__law_take
  bv_omega
  by_cases q : (0 : Int) < g
  · refine w_iteT' (decide_eq_true q) ?_
    bv_omega
    refine w_dII (by omega) ?_
    bv_omega
    refine w_dII ⟨by omega, by omega⟩ ?_
    bv_omega
    have e1 : (g : Int) % (m : Int) = ((g % m : Nat) : Int) := by simp
    have e2 : (g : Int) / (m : Int) = ((g / m : Nat) : Int) := by simp
    refine (show R (.d (.int ((g : Int) % (m : Int)))) [.ow true (.lst [.int ((g : Int) / (m : Int)), .int s]), .un] from ?_)
    rw [e1, e2]
    exact h _ _ (Nat.mod_lt _ (by omega)) ⟨_, _, rfl, hs⟩
  · refine w_iteF' (decide_eq_false q) ?_
    bv_omega
    refine w_mulI (.inr ⟨by decide, by decide⟩) ?_
    bv_omega
    refine w_dII (by decide) ?_
    bv_omega
    refine w_mulI (.inr ⟨by decide, by decide⟩) ?_
    bv_omega
    refine w_dII (by decide) ?_
    bv_omega
    refine w_mulI (.inr ⟨by decide, by decide⟩) ?_
    bv_omega
    refine w_dII ⟨by decide, by decide⟩ ?_
    bv_omega
    refine w_dII (by omega) ?_
    bv_omega
    obtain ⟨r, hr⟩ : ∃ r : Nat, ((s : Int) * 40692 + 79) % 2147483399 = r := ⟨((s * 40692 + 79) % 2147483399 : Nat), by omega⟩
    obtain ⟨s', hs', hl⟩ : ∃ s' : Nat, ((r : Int) * 39373 + 23) % 2147483587 + 1 = s' ∧ s' < 4294967296 := ⟨(((r * 39373 + 23) % 2147483587 + 1 : Nat)), by omega, by omega⟩
    obtain ⟨u, hu⟩ : ∃ u : Nat, ((r : Int) * 2147483629 + s') / 8167 = u := ⟨((r * 2147483629 + s') / 8167 : Nat), by omega⟩
    have e1 : (u : Int) % (m : Int) = ((u % m : Nat) : Int) := by simp
    refine (show R (.d (.int ((((((s : Int) * 40692 + 79) % 2147483399) * 2147483629 + (((((s : Int) * 40692 + 79) % 2147483399) * 39373 + 23) % 2147483587 + 1)) / 8167) % (m : Int)))) [.ow true (.lst [.int g, .int (((((s : Int) * 40692 + 79) % 2147483399) * 39373 + 23) % 2147483587 + 1)]), .un] from ?_)
    rw [hr, hs', hu, e1]
    exact h _ _ (Nat.mod_lt _ (by omega)) ⟨_, _, rfl, hl⟩
theorem pick_ok {c : Ct} {xs : List D} (hb : Box c) (h1 : 1 ≤ xs.length) (h2 : xs.length ≤ 1000) (h : ∀ d c', d ∈ xs → Box c' → R (.d d) [.ow true c', .un]) : dc__law_pick C [.ow true c, .fz (.list xs)] XX R := by
  refine di__law_pick ?_
  unfold ds__law_pick
  bv_omega
  refine take_ok hb h1 h2 fun v c' hv hb' => ?_
  bv_omega
  have hx : xs[v]? = some xs[v] := by simp [hv]
  refine w_ixL (d := xs[v]) ?_ ?_
  · unfold atI
    rw [ixN_nat hv]
    simpa using hx
  · exact h _ _ (List.getElem_mem hv) hb'
theorem box_ok {ns : List Int} {k : Nat} (hn : ns.length ≤ 1000) (h : ∀ c, Box c → R (.nw c) [.un, .un]) : dc__law_box C [.fz (.rol (ns.map .int)), .fz (.int k)] XX R := by
  have fin : ∀ (cell g : Int) (k : Nat), 0 ≤ cell → 0 ≤ g → R (.nw (.lst [.int g, .int ((cell % 2147483587 * 69709 + 761 * (k : Int)) % 2147483587 + 1)])) [.un, .un] := fun cell g k h1 h2 => by
    obtain ⟨g', rfl⟩ := Int.eq_ofNat_of_zero_le h2
    obtain ⟨s', hs', hl⟩ : ∃ s' : Nat, (cell % 2147483587 * 69709 + 761 * (k : Int)) % 2147483587 + 1 = s' ∧ s' < 4294967296 := ⟨((cell % 2147483587 * 69709 + 761 * (k : Int)) % 2147483587 + 1).toNat, by omega, by omega⟩
    rw [hs']
    exact h _ ⟨_, _, rfl, hl⟩
  refine di__law_box ?_
  unfold ds__law_box
  bv_omega
  refine w_mulI (.inl ⟨by decide, by decide⟩) ?_
  bv_omega
  by_cases q : (k : Int) < ((ns.map D.int).length : Int)
  · refine w_iteT' (decide_eq_true q) ?_
    bv_omega
    have hk : k < ns.length := by simpa using q
    have ha : atI (ns.map D.int) (k : Int) = some (.int ns[k]) := by
      unfold atI
      rw [ixN_nat (by simpa using hk)]
      simp [hk]
    refine w_ixR ha ?_
    bv_omega
    refine w_dII ⟨by decide, by decide, by decide⟩ ?_
    bv_omega
    by_cases q2 : ((10 : Int) ^ (18 : Int).toNat) ≤ ((ns[k]).natAbs : Int)
    · refine w_iteT' (decide_eq_true q2) ?_
      bv_omega
      refine w_dII (by decide) ?_
      bv_omega
      refine w_mulI (.inr ⟨by decide, by decide⟩) ?_
      bv_omega
      refine w_mulI (.inl ⟨by decide, by decide⟩) ?_
      bv_omega
      refine w_dII (by decide) ?_
      bv_omega
      exact fin ((ns[k]).natAbs : Int) ((ns[k]).natAbs : Int) k (by omega) (by omega)
    · refine w_iteF' (decide_eq_false q2) ?_
      bv_omega
      refine w_dII (by decide) ?_
      bv_omega
      refine w_mulI (.inr ⟨by decide, by decide⟩) ?_
      bv_omega
      refine w_mulI (.inl ⟨by decide, by decide⟩) ?_
      bv_omega
      refine w_dII (by decide) ?_
      bv_omega
      exact fin ((ns[k]).natAbs : Int) 0 k (by omega) (by decide)
  · refine w_iteF' (decide_eq_false q) ?_
    bv_omega
    by_cases q3 : (0 : Int) < ((ns.map D.int).length : Int)
    · refine w_iteT' (decide_eq_true q3) ?_
      bv_omega
      refine w_dII q3 ?_
      bv_omega
      have h0 : 0 < ns.length := by simpa using q3
      have hm : k % ns.length < ns.length := Nat.mod_lt _ h0
      have ha : atI (ns.map D.int) ((k : Int) % ((ns.map D.int).length : Int)) = some (.int ns[k % ns.length]) := by
        have e : (k : Int) % ((ns.map D.int).length : Int) = ((k % ns.length : Nat) : Int) := by simp
        rw [e]
        unfold atI
        rw [ixN_nat (by simpa using hm)]
        simp [hm]
      refine w_ixR ha ?_
      bv_omega
      refine w_dII (by decide) ?_
      bv_omega
      refine w_mulI (.inr ⟨by decide, by decide⟩) ?_
      bv_omega
      refine w_dII ⟨by decide, by decide, by decide⟩ ?_
      bv_omega
      by_cases q2 : ((10 : Int) ^ (18 : Int).toNat) ≤ (5867 * (k : Int) + 761 + ((ns[k % ns.length]).natAbs : Int) % 2147483587 * 50441)
      · refine w_iteT' (decide_eq_true q2) ?_
        bv_omega
        refine w_dII (by decide) ?_
        bv_omega
        refine w_mulI (.inr ⟨by decide, by decide⟩) ?_
        bv_omega
        refine w_mulI (.inl ⟨by decide, by decide⟩) ?_
        bv_omega
        refine w_dII (by decide) ?_
        bv_omega
        exact fin (5867 * (k : Int) + 761 + ((ns[k % ns.length]).natAbs : Int) % 2147483587 * 50441) (5867 * (k : Int) + 761 + ((ns[k % ns.length]).natAbs : Int) % 2147483587 * 50441) k (by omega) (by omega)
      · refine w_iteF' (decide_eq_false q2) ?_
        bv_omega
        refine w_dII (by decide) ?_
        bv_omega
        refine w_mulI (.inr ⟨by decide, by decide⟩) ?_
        bv_omega
        refine w_mulI (.inl ⟨by decide, by decide⟩) ?_
        bv_omega
        refine w_dII (by decide) ?_
        bv_omega
        exact fin (5867 * (k : Int) + 761 + ((ns[k % ns.length]).natAbs : Int) % 2147483587 * 50441) 0 k (by omega) (by decide)

    · refine w_iteF' (decide_eq_false q3) ?_
      bv_omega
      refine w_dII ⟨by decide, by decide, by decide⟩ ?_
      bv_omega
      by_cases q2 : ((10 : Int) ^ (18 : Int).toNat) ≤ (5867 * (k : Int) + 761)
      · refine w_iteT' (decide_eq_true q2) ?_
        bv_omega
        refine w_dII (by decide) ?_
        bv_omega
        refine w_mulI (.inr ⟨by decide, by decide⟩) ?_
        bv_omega
        refine w_mulI (.inl ⟨by decide, by decide⟩) ?_
        bv_omega
        refine w_dII (by decide) ?_
        bv_omega
        exact fin (5867 * (k : Int) + 761) (5867 * (k : Int) + 761) k (by omega) (by omega)
      · refine w_iteF' (decide_eq_false q2) ?_
        bv_omega
        refine w_dII (by decide) ?_
        bv_omega
        refine w_mulI (.inr ⟨by decide, by decide⟩) ?_
        bv_omega
        refine w_mulI (.inl ⟨by decide, by decide⟩) ?_
        bv_omega
        refine w_dII (by decide) ?_
        bv_omega
        exact fin (5867 * (k : Int) + 761) 0 k (by omega) (by decide)

end
end DL.K18
set_option Elab.async false
set_option linter.all false
set_option maxRecDepth 100000
set_option maxHeartbeats 4000000
namespace DL.K18
open PySem L2 Evl DL
section
variable {C : Addr} {XX : Exn → List Sl → Prop} {R : Rv → List Sl → Prop}
/-! ### the law's tables -/
abbrev tEnv (c : Ct) (most style n one other : Nat) (T : List (List Nat)) (s3 s8 : Sl) : Env :=
  [.ow true c, .fz (nD most), .fz (nD style), s3, .fz (nD n), .ow false (.lst (T.map rowD)), .fz (nD one), .fz (nD other), s8]
theorem row_lc {c : Ct} {most style n one other : Nat} {T : List (List Nat)} {s3 s8 : Sl} {de : DE} {X : XP} {KN : Ct → Env → Prop} (hb : Box c) (hn : n ≤ 1000)
    (hde : ∀ (c' : Ct) (i : Nat) (K : D → Env → Prop), Box c' → i < n → (∀ (x : Nat) c'' s8', x < n → Box c'' → K (nD x) (tEnv c'' most style n one other T s3 s8')) → de (tEnv c' most style n one other T s3 (.fz (nD i))) X0 K)
    (h : ∀ (xs : List Nat) c' s8', xs.length = n → (∀ x ∈ xs, x < n) → Box c' → KN (.lst (xs.map nD)) (tEnv c' most style n one other T s3 s8')) :
    nLC (iR1 (aCons (eVarF 4) aNil)) (dgName 8) bYes de [8] (tEnv c most style n one other T s3 s8) X KN := by
  refine w_nlc ?_
  bv_omega
  refine ⟨⟨by omega, by omega⟩, ?_⟩
  refine ⟨by simp [rangeD]; omega, ?_⟩
  refine lcL_go (I := fun ds acc ρ => ∃ (k : Nat) (xs : List Nat) (c' : Ct), ds = (List.range' k (n - k)).map nD ∧ k ≤ n ∧ acc = xs.map nD ∧ xs.length = k ∧ (∀ x ∈ xs, x < n) ∧ Box c' ∧ ρ = tEnv c' most style n one other T s3 .un) (fun d ds acc ρ Kx hK hI => ?_) (fun acc ρ hI => ?_) ?_
  · obtain ⟨k, xs, c', e, hk, rfl, hl, hx, hb', rfl⟩ := hI
    have hlt : k < n := by
      by_cases q : k < n
      · exact q
      · rw [show n - k = 0 by omega] at e; cases e
    rw [show n - k = (n - (k + 1)) + 1 by omega, List.range'_succ, List.map_cons] at e
    cases e
    bv_omega
    refine hde c' k _ hb' hlt fun x c'' s8' hxn hb'' => ?_
    refine hK _ _ ⟨k + 1, xs ++ [x], c'', rfl, hlt, by simp, by simp [hl], fun y hy => ?_, hb'', rfl⟩
    rcases List.mem_append.mp hy with hy | hy
    · exact hx y hy
    · rw [List.mem_singleton.mp hy]; exact hxn
  · obtain ⟨k, xs, c', e, hk, rfl, hl, hx, hb', rfl⟩ := hI
    have hkn : k = n := by
      by_cases q : k < n
      · rw [show n - k = (n - (k + 1)) + 1 by omega, List.range'_succ] at e; cases e
      · omega
    exact h xs c' _ (by omega) hx hb'
  · refine ⟨0, [], c, ?_, Nat.zero_le _, rfl, rfl, fun x hx => by simp at hx, hb, rfl⟩
    simp [rangeD, List.range_eq_range']
theorem tables_ok {c : Ct} {most : Nat} (hb : Box c) (h1 : 1 ≤ most) (h8 : most ≤ 8) (h : ∀ T n c', Tab T n → n ≤ most → Box c' → R (.d (tabD T)) [.ow true c', .un]) : dc__law_tables C [.ow true c, .fz (nD most)] XX R := by
  refine di__law_tables ?_
  unfold ds__law_tables
  bv_omega
  refine take_ok hb h1 (by omega) fun n0 c1 hn0 hb1 => ?_
  bv_omega
  refine ⟨rfl, ?_⟩
  bv_omega
  refine take_ok hb1 (by decide) (by decide) fun style c2 hst hb2 => ?_
  bv_omega
  refine take_ok (m := 3) hb2 (by decide) (by decide) fun j c3 hj hb3 => ?_
  bv_omega
  refine ⟨⟨by omega, by omega⟩, ?_⟩
  have hlen : (1 + (j : Int)).toNat = j + 1 := by omega
  rw [hlen]
  refine forL_go (I := fun ds ρ => ∃ (c' : Ct) (T : List (List Nat)) (one other : Sl) (s3 s8 : Sl), Box c' ∧ T.length + ds.length = j + 1 ∧ (∀ r ∈ T, r.length = n0 + 1) ∧ (∀ r ∈ T, ∀ x ∈ r, x < n0 + 1) ∧ ρ = [.ow true c', .fz (nD most), .fz (nD style), s3, .fz (nD (n0 + 1)), .ow false (.lst (T.map rowD)), one, other, s8]) (fun d ds ρ Kx hK hI => ?_) (fun ρ hI => ?_) ?_
  · obtain ⟨c', T, one, other, s3, s8, hb', hl, hr1, hr2, rfl⟩ := hI
    bv_omega
    refine take_ok hb' (by omega) (by omega) fun one' c4 ho hb4 => ?_
    bv_omega
    refine take_ok hb4 (by omega) (by omega) fun other' c5 hoo hb5 => ?_
    bv_omega
    refine ⟨rfl, ?_⟩
    bv_omega
    have hfin : ∀ (xs : List Nat) (c' : Ct) (s3' s8' : Sl), xs.length = n0 + 1 → (∀ x ∈ xs, x < n0 + 1) → Box c' → Kx [.ow true c', .fz (nD most), .fz (nD style), s3', .fz (nD (n0 + 1)), .ow false (.lst ((T ++ [xs]).map rowD)), .fz (nD one'), .fz (nD other'), s8'] := fun xs c' s3' s8' hxl hxs hb' => hK _ ⟨c', T ++ [xs], _, _, _, _, hb', by simp at hl ⊢; omega, fun r hr => by
      rcases List.mem_append.mp hr with hr | hr
      · exact hr1 r hr
      · rw [List.mem_singleton.mp hr]; exact hxl, fun r hr => by
      rcases List.mem_append.mp hr with hr | hr
      · exact hr2 r hr
      · rw [List.mem_singleton.mp hr]; exact hxs, rfl⟩
    have hTl : T.length ≤ 1000 := by simp at hl; omega
    have e5 : (T.map rowD).length ≤ 1000000 := by simp; omega
    by_cases q0 : (style : Int) = 0
    · refine w_iteT' (decide_eq_true q0) ?_
      bv_omega
      refine row_lc (s3 := .fz d) hb5 (by omega) (fun c' i K hb' hi hk => ?_) (fun xs c' s8' hxl hxs hb' => ?_)
      · bv_omega
        refine w_dII (by omega) ?_
        have e : ((i : Int) + (one' : Int)) % ((n0 + 1 : Nat) : Int) = (((i + one') % (n0 + 1) : Nat) : Int) := by simp
        rw [e]
        exact hk _ _ _ (Nat.mod_lt _ (by omega)) hb'
      · bv_omega
        refine ⟨e5, ?_⟩
        have := hfin xs c' (.fz d) s8' hxl hxs hb'
        rw [List.map_append] at this
        exact this
    · refine w_iteF' (decide_eq_false q0) ?_
      bv_omega
      by_cases q1 : (style : Int) = 1
      · refine w_iteT' (decide_eq_true q1) ?_
        bv_omega
        refine row_lc (s3 := .fz d) hb5 (by omega) (fun c' i K hb' hi hk => ?_) (fun xs c' s8' hxl hxs hb' => ?_)
        · bv_omega
          by_cases z : (i : Int) = one'
          · refine w_iteT' (decide_eq_true z) ?_
            bv_omega
            exact hk _ _ _ hoo hb'
          · refine w_iteF' (decide_eq_false z) ?_
            bv_omega
            by_cases z2 : (i : Int) = other'
            · refine w_iteT' (decide_eq_true z2) ?_
              bv_omega
              exact hk _ _ _ ho hb'
            · refine w_iteF' (decide_eq_false z2) ?_
              bv_omega
              exact hk _ _ _ hi hb'
        · bv_omega
          refine ⟨e5, ?_⟩
          have := hfin xs c' (.fz d) s8' hxl hxs hb'
          rw [List.map_append] at this
          exact this
      · refine w_iteF' (decide_eq_false q1) ?_
        bv_omega
        by_cases q2 : (style : Int) = 2
        · refine w_iteT' (decide_eq_true q2) ?_
          bv_omega
          refine row_lc (s3 := .fz d) hb5 (by omega) (fun c' i K hb' hi hk => ?_) (fun xs c' s8' hxl hxs hb' => ?_)
          · bv_omega
            refine pick_ok hb' (by simp) (by simp) fun dd c6 hdd hb6 => ?_
            obtain ⟨z, rfl⟩ : ∃ z : Int, dd = .int z := by
              simp only [List.mem_cons, List.not_mem_nil, or_false] at hdd
              rcases hdd with rfl | rfl <;> exact ⟨_, rfl⟩
            bv_omega
            obtain ⟨x, hx, hxn⟩ : ∃ x : Nat, min (((n0 + 1 : Nat) : Int) - 1) (max 0 ((i : Int) + z)) = (x : Int) ∧ x < n0 + 1 := ⟨(min (((n0 + 1 : Nat) : Int) - 1) (max 0 ((i : Int) + z))).toNat, by omega, by omega⟩
            rw [hx]
            exact hk _ _ _ hxn hb6
          · bv_omega
            refine ⟨e5, ?_⟩
            have := hfin xs c' (.fz d) s8' hxl hxs hb'
            rw [List.map_append] at this
            exact this
        · refine w_iteF' (decide_eq_false q2) ?_
          bv_omega
          by_cases q3 : (style : Int) = 3
          · refine w_iteT' (decide_eq_true q3) ?_
            bv_omega
            refine row_lc (s3 := .fz d) hb5 (by omega) (fun c' i K hb' hi hk => ?_) (fun xs c' s8' hxl hxs hb' => ?_)
            · bv_omega
              refine take_ok hb' (by decide) (by decide) fun v c6 hv hb6 => ?_
              bv_omega
              by_cases z : (v : Int) = 0
              · refine w_iteT' (decide_eq_true z) ?_
                bv_omega
                exact hk _ _ _ ho hb6
              · refine w_iteF' (decide_eq_false z) ?_
                bv_omega
                exact hk _ _ _ hi hb6
            · bv_omega
              refine ⟨e5, ?_⟩
              have := hfin xs c' (.fz d) s8' hxl hxs hb'
              rw [List.map_append] at this
              exact this
          · refine w_iteF' (decide_eq_false q3) ?_
            bv_omega
            refine row_lc (s3 := .fz d) hb5 (by omega) (fun c' i K hb' hi hk => ?_) (fun xs c' s8' hxl hxs hb' => ?_)
            · bv_omega
              refine take_ok hb' (by omega) (by omega) fun v c6 hv hb6 => ?_
              bv_omega
              exact hk _ _ _ hv hb6
            · bv_omega
              refine ⟨e5, ?_⟩
              have := hfin xs c' (.fz d) s8' hxl hxs hb'
              rw [List.map_append] at this
              exact this
  · obtain ⟨c', T, one, other, s3, s8, hb', hl, hr1, hr2, rfl⟩ := hI
    bv_omega
    have : T.length = j + 1 := by simpa using hl
    exact h T (n0 + 1) c' ⟨by omega, by omega, by omega, by omega, hr1, hr2⟩ (by omega) hb'
  · refine ⟨c3, [], .un, .un, .un, .un, hb3, by simp [rangeD], fun r h => by simp at h, fun r h => by simp at h, ?_⟩
    have e : (1 + (n0 : Int)) = ((n0 + 1 : Nat) : Int) := by omega
    rw [e]
    rfl
end
end DL.K18
set_option Elab.async false
set_option linter.all false
set_option maxRecDepth 100000
set_option maxHeartbeats 4000000
namespace DL.K18
open PySem L2 Evl DL
/-! ### rounds -/
def it (T : List (List Nat)) (row : List Nat) : Nat → Nat → Nat
  | 0, s => s
  | k + 1, s => run T (it T row k s) row
def rndF (T : List (List Nat)) (s : Nat) (row : List Nat) : Nat → Nat → Nat
  | _, 0 => 0
  | k, m + 1 => if it T row (k + 1) s = s then k + 1 else rndF T s row (k + 1) m
def rnd (T : List (List Nat)) (s : Nat) (row : List Nat) (m : Nat) : Nat := rndF T s row 0 m
theorem it_lt {T : List (List Nat)} {n : Nat} (t : Tab T n) {row : List Nat} (hr : Row T row) {s : Nat} (hs : s < n) : ∀ k, it T row k s < n
  | 0 => hs
  | k + 1 => run_lt t hr (it_lt t hr hs k)
theorem rangeD1 (a n : Nat) : rangeD (a : Int) 1 n = (List.range' a n).map nD := by
  unfold rangeD
  rw [List.range_eq_range', List.range'_eq_map_range, List.range'_eq_map_range, List.map_map, List.map_map]
  apply List.map_congr_left
  intro i _
  simp [nD]
section
variable {C : Addr} {XX : Exn → List Sl → Prop} {R : Rv → List Sl → Prop}
theorem led_ok {T : List (List Nat)} {n s : Nat} {row : List Nat} (t : Tab T n) (hs : s < n) (hr : Row T row) (h : R (.d (nD (run T s row))) [.un, .un, .un]) : dc__law_led C [.fz (tabD T), .fz (nD s), .fz (rowD row)] XX R := by
  refine di__law_led ?_
  unfold ds__law_led
  bv_omega
  refine forL_go (I := fun ds ρ => ∃ (rest : List Nat) (s' : Nat) (s3 : Sl), ds = rest.map nD ∧ Row T rest ∧ s' < n ∧ run T s' rest = run T s row ∧ ρ = [.fz (tabD T), .fz (nD s'), .fz (rowD row), s3]) (fun d ds ρ Kx hK hI => ?_) (fun ρ hI => ?_) ⟨row, s, .un, rfl, hr, hs, rfl, rfl⟩
  · obtain ⟨rest, s', s3, e, hr, hs', hrun, rfl⟩ := hI
    cases rest with
    | nil => cases e
    | cons x rest =>
      cases e
      obtain ⟨r, a1, a2, a3⟩ := stp_at t (hr x (by simp)) hs'
      bv_omega
      refine w_ixT (atI_map T rowD a1) ?_
      bv_omega
      refine w_ixT (atI_map r nD a2) ?_
      bv_omega
      exact hK _ ⟨rest, _, _, rfl, fun y hy => hr y (by simp [hy]), a3, hrun, rfl⟩
  · obtain ⟨rest, s', s3, e, hr, hs', hrun, rfl⟩ := hI
    cases rest with
    | cons x rest => cases e
    | nil =>
      have hrun : s' = run T s row := hrun
      subst hrun
      bv_omega
      exact h
theorem rounds_ok {T : List (List Nat)} {n s : Nat} {row : List Nat} (t : Tab T n) (hs : s < n) (hr : Row T row) (h : R (.d (nD (rnd T s row 8))) [.un, .un, .un]) : dc__law_rounds C [.fz (tabD T), .fz (nD s), .fz (rowD row)] XX R := by
  refine di__law_rounds ?_
  unfold ds__law_rounds
  bv_omega
  refine ⟨⟨by decide, by decide⟩, ⟨by decide, by decide⟩, ?_⟩
  rw [show ∀ k : Nat, rangeD 1 1 k = (List.range' 1 k).map nD from fun k => rangeD1 1 k]
  refine forL_go (I := fun ds ρ => ∃ (k m : Nat) (s4 : Sl), ds = (List.range' (k + 1) m).map nD ∧ rndF T s row k m = rnd T s row 8 ∧ ρ = [.fz (tabD T), .fz (nD s), .fz (rowD row), .fz (nD (it T row k s)), s4]) (fun d ds ρ Kx hK hI => ?_) (fun ρ hI => ?_) ⟨0, 8, .un, rfl, rfl, rfl⟩
  · obtain ⟨k, m, s4, e, hrn, rfl⟩ := hI
    cases m with
    | zero => cases e
    | succ m =>
      rw [List.range'_succ] at e
      cases e
      bv_omega
      refine led_ok t (it_lt t hr hs k) hr ?_
      bv_omega
      unfold rndF at hrn
      by_cases q : it T row (k + 1) s = s
      · rw [if_pos q] at hrn
        refine w_iteT' (decide_eq_true (by show ((it T row (k + 1) s : Nat) : Int) = s; rw [q])) ?_
        bv_omega
        rw [← hrn] at h
        exact h
      · rw [if_neg q] at hrn
        refine w_iteF' (decide_eq_false (by show ¬ ((it T row (k + 1) s : Nat) : Int) = s; omega)) ?_
        bv_omega
        exact hK _ ⟨k + 1, m, _, rfl, hrn, rfl⟩
  · obtain ⟨k, m, s4, e, hrn, rfl⟩ := hI
    cases m with
    | succ m => cases e
    | zero =>
      bv_omega
      rw [← hrn] at h
      exact h
end
end DL.K18
set_option Elab.async false
set_option linter.all false
set_option maxRecDepth 100000
set_option maxHeartbeats 4000000
namespace DL.K18
open PySem L2 Evl DL
/-! ### dicts keyed by states -/
def kd (L : List (Nat × D)) : List (Key × D) := L.map fun p => (.inl (p.1 : Int), p.2)
def look (L : List (Nat × D)) (x : Nat) : Option D := (L.find? fun p => decide (p.1 = x)).map (·.2)
theorem dVal_kd (x : Nat) : ∀ L : List (Nat × D), dVal (kd L) (.inl (x : Int)) = look L x
  | [] => rfl
  | p :: L => by
    have ih := dVal_kd x L
    unfold dVal look kd at ih ⊢
    rw [List.map_cons, List.find?_cons, List.find?_cons]
    by_cases q : p.1 = x
    · have e : decide ((Sum.inl ((p.1 : Nat) : Int) : Key) = Sum.inl (x : Int)) = true := decide_eq_true (by rw [q])
      rw [e, decide_eq_true q]
      rfl
    · have e : decide ((Sum.inl ((p.1 : Nat) : Int) : Key) = Sum.inl (x : Int)) = false := decide_eq_false (fun z => q (by cases z; omega))
      rw [e, decide_eq_false q]
      exact ih
theorem look_some {x : Nat} : ∀ {L : List (Nat × D)}, (look L x).isSome = decide (x ∈ L.map (·.1))
  | [] => rfl
  | p :: L => by
    unfold look
    rw [List.find?_cons]
    by_cases q : p.1 = x
    · rw [decide_eq_true q]; simp [q]
    · rw [decide_eq_false q]
      have := look_some (x := x) (L := L)
      unfold look at this
      have q' : ¬ x = p.1 := fun z => q z.symm
      simp only [List.map_cons, List.mem_cons, q', false_or]
      exact this
theorem dPut_kd {x : Nat} {v : D} {L : List (Nat × D)} (h : x ∉ L.map (·.1)) : dPut (kd L) (.inl (x : Int)) v = kd (L ++ [(x, v)]) := by
  unfold dPut
  have : ((kd L).any fun kv => decide (kv.1 = (.inl (x : Int) : Key))) = false := by
    rw [List.any_eq_false]
    intro kv hkv
    obtain ⟨p, hp, rfl⟩ := List.mem_map.mp hkv
    simp only [decide_eq_true_eq]
    intro z
    have z' : (p.1 : Int) = (x : Int) := by injection z
    exact h (List.mem_map.mpr ⟨p, hp, by omega⟩)
  rw [this, if_neg (by decide)]
  simp [kd]
theorem dget_kd {x : Nat} {L : List (Nat × D)} : dget (.dict (kd L)) (nD x) = some (look L x) := by
  show (D.key (nD x)).map (dVal (kd L)) = _
  rw [← dVal_kd]; rfl
/-! ### what is reached -/
inductive Rch (T : List (List Nat)) (a : Nat) : Nat → Prop
  | refl : Rch T a a
  | step {s d : Nat} : Rch T a s → d < T.length → Rch T a (stp T d s)
theorem Rch.lt {T : List (List Nat)} {n a s : Nat} (t : Tab T n) (ha : a < n) (h : Rch T a s) : s < n := by
  induction h with
  | refl => exact ha
  | step _ hd ih => exact (stp_at t hd ih).choose_spec.2.2
theorem nodup_le {n : Nat} : ∀ {L : List Nat}, L.Nodup → (∀ x ∈ L, x < n) → L.length ≤ n := by
  induction n with
  | zero =>
    intro L _ h
    cases L with
    | nil => simp
    | cons x L => exact absurd (h x (by simp)) (by omega)
  | succ n ih =>
    intro L hn h
    have h1 := ih (L := L.erase n) (hn.erase n) fun x hx => by
      have := h x (List.mem_of_mem_erase hx)
      have hne : x ≠ n := fun z => by subst z; exact (List.Nodup.not_mem_erase hn) hx
      omega
    have h2 := List.length_erase (a := n) (l := L)
    by_cases q : n ∈ L
    · rw [if_pos q] at h2; omega
    · rw [if_neg q] at h2; omega
section
variable {C : Addr} {XX : Exn → List Sl → Prop} {R : Rv → List Sl → Prop}
def trueL (Fd : List Nat) : List (Nat × D) := Fd.map fun s => (s, .bool true)
theorem trueL_keys (Fd : List Nat) : (trueL Fd).map (·.1) = Fd := by
  unfold trueL; rw [List.map_map]; exact List.map_id' _
/-- the walk of what is reached: found, still to be seen -/
structure Seek (T : List (List Nat)) (n a : Nat) (Fd W : List Nat) : Prop where
  nd : Fd.Nodup
  wn : W.Nodup
  rc : ∀ x ∈ Fd, Rch T a x
  sub : ∀ x ∈ W, x ∈ Fd
  st : a ∈ Fd
theorem reached_ok {T : List (List Nat)} {n a : Nat} (t : Tab T n) (ha : a < n) (h : ∀ L : List Nat, L.Nodup → L.Pairwise (· ≤ ·) → (∀ s, s ∈ L ↔ Rch T a s) → R (.d (.tuple (L.map nD))) [.un, .un]) : dc_reached C [.fz (macD C T n), .fz (nD a)] XX R := by
  have n8 := t.n8
  refine di_reached ?_
  unfold ds_reached
  bv_omega
  refine need_state_ok ha ?_
  bv_omega
  refine w_ofS (x := (.inl (a : Int))) rfl ?_
  bv_omega
  refine while_go (I := fun k ρ => ∃ (Fd W : List Nat) (s4 s5 : Sl), Seek T n a Fd W ∧ (∀ x ∈ Fd, x ∈ W ∨ ∀ d, d < T.length → stp T d x ∈ Fd) ∧ k = (n - Fd.length) * 2 + W.length ∧ ρ = [.fz (macD C T n), .fz (nD a), .ow false (.dct (kd (trueL Fd))), .ow false (.lst (W.map nD)), s4, s5]) (fun k ρ Kx hK hI => ?_) (k := (n - 1) * 2 + 1) ⟨[a], [a], .un, .un, ⟨by simp, by simp, fun x hx => by rw [List.mem_singleton.mp hx]; exact .refl, fun x hx => hx, by simp⟩, fun x hx => .inl hx, rfl, rfl⟩
  obtain ⟨Fd, W, s4, s5, sk, hcl, rfl, rfl⟩ := hI
  have hFn : Fd.length ≤ n := nodup_le sk.nd fun x hx => (sk.rc x hx).lt t ha
  have hWn : W.length ≤ n := nodup_le sk.wn fun x hx => (sk.rc x (sk.sub x hx)).lt t ha
  bv_omega
  refine w_lenS rfl (by simp; omega) ?_
  bv_omega
  by_cases q : (0 : Int) < ((W.map nD).length : Int)
  · refine w_iteT' (decide_eq_true q) ?_
    have hW : W ≠ [] := fun z => by subst z; simp at q
    obtain ⟨W', y, rfl⟩ : ∃ W' y, W = W' ++ [y] := ⟨W.dropLast, W.getLast hW, (List.dropLast_concat_getLast hW).symm⟩
    bv_omega
    refine w_pop (d := nD y) rfl (by simp) ?_
    bv_omega
    have hyF : y ∈ Fd := sk.sub y (by simp)
    have hyn : y < n := (sk.rc y hyF).lt t ha
    have hnd := List.nodup_append.mp sk.wn
    have hyW : y ∉ W' := fun z => hnd.2.2 y z y (by simp) rfl
    refine forL_go (I := fun ds ρ => ∃ (m : Nat) (Fd' W'' : List Nat) (s5 : Sl), ds = (T.drop m).map rowD ∧ Seek T n a Fd' W'' ∧ y ∈ Fd' ∧ (∀ x ∈ Fd', x ∈ W'' ∨ x = y ∨ ∀ d, d < T.length → stp T d x ∈ Fd') ∧ (∀ d, d < m → d < T.length → stp T d y ∈ Fd') ∧
      (n - Fd'.length) * 2 + W''.length ≤ (n - Fd.length) * 2 + W'.length ∧ ρ = [.fz (macD C T n), .fz (nD a), .ow false (.dct (kd (trueL Fd'))), .ow false (.lst (W''.map nD)), .fz (nD y), s5]) (fun d ds ρ Kx' hK' hI => ?_) (fun ρ hI => ?_) ⟨0, Fd, W', s5, rfl, ⟨sk.nd, hnd.1, sk.rc, fun x hx => sk.sub x (by simp [hx]), sk.st⟩, hyF, fun x hx => ?_, fun d hd => by omega, Nat.le_refl _, ?_⟩
    · obtain ⟨m, Fd', W'', s5, e, sk', hy', hc1, hc2, hms, rfl⟩ := hI
      have hm : m < T.length := by
        by_cases z : m < T.length
        · exact z
        · rw [List.drop_eq_nil_of_le (by omega)] at e; cases e
      rw [List.drop_eq_getElem_cons hm] at e
      cases e
      obtain ⟨r, a1, a2, a3⟩ := stp_at t hm hyn
      have hr : T[m] = r := by
        have : T[m]? = some T[m] := by simp [hm]
        rw [a1] at this; simpa using this.symm
      rw [hr]
      have hF' : Fd'.length ≤ n := nodup_le sk'.nd fun x hx => (sk'.rc x hx).lt t ha
      have hW' : W''.length ≤ n := nodup_le sk'.wn fun x hx => (sk'.rc x (sk'.sub x hx)).lt t ha
      bv_omega
      refine w_ixT (atI_map r nD a2) ?_
      bv_omega
      refine ⟨_, dget_kd, ?_⟩
      rw [look_some, trueL_keys]
      by_cases z : stp T m y ∈ Fd'
      · rw [decide_eq_true z]
        bv_omega
        exact hK' _ ⟨m + 1, Fd', W'', _, rfl, sk', hy', hc1, fun d hd hd' => by
          by_cases e : d = m
          · subst e; exact z
          · exact hc2 d (by omega) hd', hms, rfl⟩
      · rw [decide_eq_false z]
        bv_omega
        refine w_ixT (atI_map r nD a2) ?_
        bv_omega
        have hput : ctPut (.dct (kd (trueL Fd'))) (nD (stp T m y)) (.bool true) = some (.dct (kd (trueL (Fd' ++ [stp T m y])))) := by
          have e1 : (kd (trueL Fd')).length ≤ 1000000 := by simp [kd, trueL]; omega
          show (if (kd (trueL Fd')).length ≤ 1000000 then (D.key (nD (stp T m y))).map fun k => Ct.dct (dPut (kd (trueL Fd')) k (.bool true)) else none) = _
          rw [if_pos e1]
          show some (Ct.dct (dPut (kd (trueL Fd')) (.inl ((stp T m y : Nat) : Int)) (.bool true))) = _
          rw [dPut_kd (by rw [trueL_keys]; exact z)]
          simp [trueL]
        refine w_put hput ?_
        bv_omega
        refine w_ixT (atI_map r nD a2) ?_
        bv_omega
        refine ⟨by simp; omega, ?_⟩
        have hz2 : stp T m y ∉ W'' := fun w => z (sk'.sub _ w)
        have hF2 : (Fd' ++ [stp T m y]).length ≤ n := nodup_le (List.nodup_append.mpr ⟨sk'.nd, by simp, fun u hu v hv => by rw [List.mem_singleton.mp hv]; exact fun w => z (by rw [← w]; exact hu)⟩) fun x hx => by
          rcases List.mem_append.mp hx with hx | hx
          · exact (sk'.rc x hx).lt t ha
          · rw [List.mem_singleton.mp hx]; exact a3
        rw [List.length_append, List.length_singleton] at hF2
        refine hK' _ ⟨m + 1, Fd' ++ [stp T m y], W'' ++ [stp T m y], .fz (rowD r), rfl, ⟨List.nodup_append.mpr ⟨sk'.nd, by simp, fun u hu v hv => by rw [List.mem_singleton.mp hv]; exact fun w => z (by rw [← w]; exact hu)⟩, List.nodup_append.mpr ⟨sk'.wn, by simp, fun u hu v hv => by rw [List.mem_singleton.mp hv]; exact fun w => hz2 (by rw [← w]; exact hu)⟩, fun x hx => ?_, fun x hx => ?_, by simp [sk'.st]⟩, by simp [hy'], fun x hx => ?_, fun d hd hd' => ?_, ?_, ?_⟩
        · rcases List.mem_append.mp hx with hx | hx
          · exact sk'.rc x hx
          · rw [List.mem_singleton.mp hx]; exact .step (sk'.rc y hy') hm
        · rcases List.mem_append.mp hx with hx | hx
          · exact List.mem_append_left _ (sk'.sub x hx)
          · exact List.mem_append_right _ hx
        · rcases List.mem_append.mp hx with hx | hx
          · rcases hc1 x hx with w | w | w
            · exact .inl (List.mem_append_left _ w)
            · exact .inr (.inl w)
            · exact .inr (.inr fun d hd => List.mem_append_left _ (w d hd))
          · exact .inl (List.mem_append_right _ hx)
        · by_cases e : d = m
          · subst e; simp
          · exact List.mem_append_left _ (hc2 d (by omega) hd')
        · rw [List.length_append, List.length_append, List.length_singleton]; omega
        · simp
    · obtain ⟨m, Fd', W'', s5, e, sk', hy', hc1, hc2, hms, rfl⟩ := hI
      have hm : T.length ≤ m := by
        by_cases z : m < T.length
        · rw [List.drop_eq_getElem_cons z] at e; cases e
        · omega
      refine hK _ _ ?_ ⟨Fd', W'', _, _, sk', fun x hx => ?_, rfl, rfl⟩
      · rw [List.length_append, List.length_singleton]; omega
      · rcases hc1 x hx with w | w | w
        · exact .inl w
        · subst w; exact .inr fun d hd => hc2 d (by omega) hd
        · exact .inr w
    · rcases hcl x hx with w | w
      · rcases List.mem_append.mp w with w | w
        · exact .inl w
        · exact .inr (.inl (List.mem_singleton.mp w))
      · exact .inr (.inr w)
    · simp
  · refine w_iteF' (decide_eq_false q) ?_
    have hW : W = [] := by
      cases W with
      | nil => rfl
      | cons x W => simp at q
    subst hW
    bv_omega
    have hkeys : ((kd (trueL Fd)).map fun kv => keyD kv.1) = (Fd.map fun x : Nat => (x : Int)).map D.int := by
      simp [kd, trueL, keyD]
    rw [hkeys]
    refine w_sort (asInts_map _) fun ns' hp hs => ?_
    bv_omega
    obtain ⟨L, rfl⟩ : ∃ L : List Nat, ns' = L.map fun x : Nat => (x : Int) := by
      have : ∀ x ∈ ns', ∃ y : Nat, x = y := fun x hx => by
        obtain ⟨y, _, rfl⟩ := List.mem_map.mp (hp.mem_iff.mp hx)
        exact ⟨y, rfl⟩
      clear hp hs
      induction ns' with
      | nil => exact ⟨[], rfl⟩
      | cons x ns' ih =>
        obtain ⟨y, rfl⟩ := this x (by simp)
        obtain ⟨L, rfl⟩ := ih fun z hz => this z (by simp [hz])
        exact ⟨y :: L, rfl⟩
    have hmem : ∀ s, s ∈ L ↔ s ∈ Fd := fun s => by
      have := hp.mem_iff (a := (s : Int))
      simp only [List.mem_map] at this
      constructor
      · intro hs
        obtain ⟨y, h1, h2⟩ := this.mp ⟨s, hs, rfl⟩
        have : y = s := by omega
        rw [← this]; exact h1
      · intro hs
        obtain ⟨y, h1, h2⟩ := this.mpr ⟨s, hs, rfl⟩
        have : y = s := by omega
        rw [← this]; exact h1
    have hpw : L.Pairwise (· ≤ ·) := by
      rw [List.pairwise_map] at hs
      exact hs.imp fun h => by omega
    have hnd : L.Nodup := by
      have h1 : (L.map fun x : Nat => (x : Int)).Nodup := hp.nodup_iff.mpr (by
        unfold List.Nodup
        rw [List.pairwise_map]
        exact sk.nd.imp fun h => by omega)
      unfold List.Nodup at h1 ⊢
      rw [List.pairwise_map] at h1
      exact h1.imp fun h => by omega
    have hall : ∀ s, s ∈ L ↔ Rch T a s := fun s => by
      rw [hmem]
      refine ⟨sk.rc s, fun hr => ?_⟩
      induction hr with
      | refl => exact sk.st
      | step _ hd ih =>
        rcases hcl _ ih with w | w
        · simp at w
        · exact w _ hd
    have := h L hnd hpw hall
    rw [List.map_map]
    exact this
end
end DL.K18
set_option Elab.async false
set_option linter.all false
set_option maxRecDepth 100000
set_option maxHeartbeats 4000000
namespace DL.K18
open PySem L2 Evl DL
/-! ### the breadth first walk -/
abbrev PL := List (Nat × List Nat)
def keysL (L : PL) : List Nat := L.map (·.1)
def encL (L : PL) : List (Nat × D) := L.map fun p => (p.1, rowD p.2)
theorem encL_keys (L : PL) : (encL L).map (·.1) = keysL L := by
  unfold encL keysL; rw [List.map_map]; rfl
def procD (T : List (List Nat)) (h : Nat × List Nat) (L : PL) (d : Nat) : PL := if stp T d h.1 ∈ keysL L then L else L ++ [(stp T d h.1, h.2 ++ [d])]
def procN (T : List (List Nat)) (h : Nat × List Nat) (L : PL) : Nat → PL
  | 0 => L
  | m + 1 => procD T h (procN T h L m) m
def comeN (T : List (List Nat)) (a : Nat) : Nat → PL
  | 0 => [(a, [])]
  | k + 1 => match (comeN T a k)[k]? with
    | some h => procN T h (comeN T a k) T.length
    | none => comeN T a k
def comeL (T : List (List Nat)) (a : Nat) : PL := comeN T a 8
structure Come (T : List (List Nat)) (n a : Nat) (L : PL) : Prop where
  nd : (keysL L).Nodup
  lt : ∀ p ∈ L, p.1 < n
  row : ∀ p ∈ L, Row T p.2
  run : ∀ p ∈ L, run T a p.2 = p.1
  len : ∀ p ∈ L, p.2.length ≤ L.length
  st : a ∈ keysL L
theorem mem_keys {L : PL} {p : Nat × List Nat} (h : p ∈ L) : p.1 ∈ keysL L := List.mem_map.mpr ⟨p, h, rfl⟩
theorem Come.le {T : List (List Nat)} {n a : Nat} {L : PL} (c : Come T n a L) : L.length ≤ n := by
  have := nodup_le c.nd fun x hx => by
    obtain ⟨p, hp, rfl⟩ := List.mem_map.mp hx
    exact c.lt p hp
  simpa [keysL] using this
theorem run_app {T : List (List Nat)} {s d : Nat} {row : List Nat} : run T s (row ++ [d]) = stp T d (run T s row) := by
  unfold run; rw [List.foldl_append]; rfl
theorem Come.proc {T : List (List Nat)} {n a : Nat} (t : Tab T n) {L : PL} {h : Nat × List Nat} {d : Nat} (c : Come T n a L) (hh : h ∈ L) (hd : d < T.length) : Come T n a (procD T h L d) := by
  unfold procD
  by_cases q : stp T d h.1 ∈ keysL L
  · rw [if_pos q]; exact c
  · rw [if_neg q]
    have key : ∀ {P : Nat × List Nat → Prop}, (∀ p ∈ L, P p) → P (stp T d h.1, h.2 ++ [d]) → ∀ p ∈ L ++ [(stp T d h.1, h.2 ++ [d])], P p := fun h1 h2 p hp => by
      rcases List.mem_append.mp hp with w | w
      · exact h1 p w
      · rw [List.mem_singleton.mp w]; exact h2
    refine ⟨?_, key c.lt (stp_at t hd (c.lt h hh)).choose_spec.2.2, key c.row fun x hx => ?_, key c.run ?_, key (fun p hp => ?_) ?_, ?_⟩
    · unfold keysL
      rw [List.map_append, List.map_cons, List.map_nil]
      exact List.nodup_append.mpr ⟨c.nd, by simp, fun u hu v hv w => q (by have := List.mem_singleton.mp hv; rw [w, this] at hu; exact hu)⟩
    · rcases List.mem_append.mp hx with w | w
      · exact c.row h hh x w
      · rw [List.mem_singleton.mp w]; exact hd
    · show DL.K18.run T a (h.2 ++ [d]) = stp T d h.1
      rw [run_app, c.run h hh]
    · rw [List.length_append, List.length_singleton]
      have := c.len p hp
      omega
    · rw [List.length_append, List.length_singleton]
      have := c.len h hh
      simp; omega
    · unfold keysL
      rw [List.map_append]
      exact List.mem_append_left _ c.st
theorem procD_sub {T : List (List Nat)} {L : PL} {h : Nat × List Nat} {d : Nat} : ∃ E, procD T h L d = L ++ E := by
  unfold procD
  by_cases q : stp T d h.1 ∈ keysL L
  · exact ⟨[], by rw [if_pos q]; simp⟩
  · exact ⟨_, by rw [if_neg q]⟩
theorem procN_sub {T : List (List Nat)} {L : PL} {h : Nat × List Nat} : ∀ m, ∃ E, procN T h L m = L ++ E
  | 0 => ⟨[], by simp [procN]⟩
  | m + 1 => by
    obtain ⟨E, e⟩ := procN_sub (T := T) (L := L) (h := h) m
    obtain ⟨E2, e2⟩ := procD_sub (T := T) (L := procN T h L m) (h := h) (d := m)
    exact ⟨E ++ E2, by rw [procN, e2, e, List.append_assoc]⟩
theorem Come.procN {T : List (List Nat)} {n a : Nat} (t : Tab T n) {L : PL} {h : Nat × List Nat} (c : Come T n a L) (hh : h ∈ L) : ∀ m, m ≤ T.length → Come T n a (procN T h L m)
  | 0, _ => c
  | m + 1, hm => by
    obtain ⟨E, e⟩ := procN_sub (T := T) (L := L) (h := h) m
    exact (Come.procN t c hh m (by omega)).proc t (by rw [e]; exact List.mem_append_left _ hh) (by omega)
theorem Come.start {T : List (List Nat)} {n a : Nat} (ha : a < n) : Come T n a [(a, [])] :=
  ⟨by simp [keysL], fun p hp => by rw [List.mem_singleton.mp hp]; exact ha, fun p hp => by rw [List.mem_singleton.mp hp]; exact fun x hx => by simp at hx, fun p hp => by rw [List.mem_singleton.mp hp]; rfl, fun p hp => by rw [List.mem_singleton.mp hp]; simp, by simp [keysL]⟩
theorem Come.at {T : List (List Nat)} {n a : Nat} (t : Tab T n) (ha : a < n) : ∀ k, Come T n a (comeN T a k)
  | 0 => .start ha
  | k + 1 => by
    unfold comeN
    cases q : (comeN T a k)[k]? with
    | none => exact Come.at t ha k
    | some h => exact (Come.at t ha k).procN t (List.mem_of_getElem? q) _ (Nat.le_refl _)
theorem comeN_stop {T : List (List Nat)} {a k : Nat} (h : (comeN T a k).length ≤ k) : ∀ m, k ≤ m → comeN T a m = comeN T a k := fun m hm => by
  induction m with
  | zero =>
    have : k = 0 := by omega
    subst this; rfl
  | succ m ih =>
    by_cases q : k = m + 1
    · subst q; rfl
    · have e := ih (by omega)
      have e2 : comeN T a (m + 1) = match (comeN T a m)[m]? with | some h => procN T h (comeN T a m) T.length | none => comeN T a m := rfl
      have e3 : (comeN T a m)[m]? = none := by rw [e]; exact List.getElem?_eq_none (by omega)
      rw [e2, e3]
      exact e
theorem look_enc {L : PL} (nd : (keysL L).Nodup) {p : Nat × List Nat} (hp : p ∈ L) : look (encL L) p.1 = some (rowD p.2) := by
  induction L with
  | nil => simp at hp
  | cons q L ih =>
    have hn := List.nodup_cons.mp nd
    unfold look encL
    rw [List.map_cons, List.find?_cons]
    rcases List.mem_cons.mp hp with rfl | hp
    · simp
    · have hne : q.1 ≠ p.1 := fun z => hn.1 (by
        show q.1 ∈ keysL L
        rw [z]; exact mem_keys hp)
      rw [decide_eq_false hne]
      exact ih hn.2 hp
theorem encL_app (L : PL) (x : Nat) (r : List Nat) : encL (L ++ [(x, r)]) = encL L ++ [(x, rowD r)] := by
  simp [encL]
theorem kd_len (L : List (Nat × D)) : (kd L).length = L.length := by simp [kd]
theorem put_enc {L : PL} {x : Nat} {r : List Nat} (hl : L.length ≤ 1000) (h : x ∉ keysL L) : ctPut (.dct (kd (encL L))) (nD x) (rowD r) = some (.dct (kd (encL (L ++ [(x, r)])))) := by
  have e1 : (kd (encL L)).length ≤ 1000000 := by rw [kd_len]; simp [encL]; omega
  show (if (kd (encL L)).length ≤ 1000000 then (D.key (nD x)).map fun k => Ct.dct (dPut (kd (encL L)) k (rowD r)) else none) = _
  rw [if_pos e1, encL_app]
  show some (Ct.dct (dPut (kd (encL L)) (.inl (x : Int)) (rowD r))) = _
  rw [dPut_kd (by rw [encL_keys]; exact h)]
theorem big {a b : Nat} (h : a + b ≤ 1000000) : a + b ≤ sizeLine := Nat.le_trans h (by rw [sizeLine_eq]; decide)
section
variable {C : Addr} {XX : Exn → List Sl → Prop} {R : Rv → List Sl → Prop}
theorem drop_cons {α : Type} {xs : List α} {m : Nat} {g : α → D} {d : D} {ds : List D} (e : d :: ds = (xs.drop m).map g) : ∃ h : m < xs.length, d = g xs[m] ∧ ds = (xs.drop (m + 1)).map g := by
  by_cases z : m < xs.length
  · rw [List.drop_eq_getElem_cons z] at e
    cases e
    exact ⟨z, rfl, rfl⟩
  · rw [List.drop_eq_nil_of_le (by omega)] at e; cases e
theorem drop_nil {α : Type} {xs : List α} {m : Nat} {g : α → D} (e : [] = (xs.drop m).map g) : xs.length ≤ m := by
  by_cases z : m < xs.length
  · rw [List.drop_eq_getElem_cons z] at e; cases e
  · omega
theorem enum_cons {α : Type} {xs : List α} {m k : Nat} {g : α → D} {d : D} {ds : List D} (e : d :: ds = enumD k ((xs.drop m).map g)) : ∃ h : m < xs.length, d = .tuple [nD k, g xs[m]] ∧ ds = enumD (k + 1) ((xs.drop (m + 1)).map g) := by
  by_cases z : m < xs.length
  · rw [List.drop_eq_getElem_cons z] at e
    cases e
    exact ⟨z, rfl, rfl⟩
  · rw [List.drop_eq_nil_of_le (by omega)] at e; cases e
theorem enum_nil {α : Type} {xs : List α} {m k : Nat} {g : α → D} (e : [] = enumD k ((xs.drop m).map g)) : xs.length ≤ m := by
  by_cases z : m < xs.length
  · rw [List.drop_eq_getElem_cons z] at e; cases e
  · omega
theorem first_rows_ok {T : List (List Nat)} {n a : Nat} (t : Tab T n) (ha : a < n) (h : R (.nw (.dct (kd (encL (comeL T a))))) [.un, .un]) : dc_first_rows C [.fz (macD C T n), .fz (nD a)] XX R := by
  have n8 := t.n8
  have t4 := t.t4
  refine di_first_rows ?_
  unfold ds_first_rows
  bv_omega
  refine w_ofS (x := (.inl (a : Int))) rfl ?_
  bv_omega
  refine while_go (I := fun mm ρ => ∃ (k : Nat) (s5 s6 s7 : Sl), mm + k = 9 ∧ k ≤ (comeN T a k).length ∧ ρ = [.fz (macD C T n), .fz (nD a), .ow false (.dct (kd (encL (comeN T a k)))), .ow false (.lst ((keysL (comeN T a k)).map nD)), .fz (nD k), s5, s6, s7]) (fun mm ρ Kx hK hI => ?_) (k := 9) ⟨0, .un, .un, .un, rfl, Nat.zero_le _, rfl⟩
  obtain ⟨k, s5, s6, s7, hmk, hkL, rfl⟩ := hI
  have c := Come.at t ha k
  have cl := c.le
  have kl : (keysL (comeN T a k)).length = (comeN T a k).length := by simp [keysL]
  bv_omega
  refine w_lenS rfl (by rw [List.length_map, kl]; omega) ?_
  bv_omega
  by_cases q : (k : Int) < (((keysL (comeN T a k)).map nD).length : Int)
  · refine w_iteT' (decide_eq_true q) ?_
    have hk : k < (comeN T a k).length := by rw [List.length_map, kl] at q; omega
    obtain ⟨hh, hget⟩ : ∃ hh, (comeN T a k)[k]? = some hh := ⟨_, List.getElem?_eq_getElem hk⟩
    have hmem : hh ∈ comeN T a k := List.mem_of_getElem? hget
    have hhn := c.lt hh hmem
    have hkey : (keysL (comeN T a k))[k]? = some hh.1 := by unfold keysL; rw [List.getElem?_map, hget]; rfl
    have hnext : comeN T a (k + 1) = procN T hh (comeN T a k) T.length := by
      show (match (comeN T a k)[k]? with | some h => procN T h (comeN T a k) T.length | none => comeN T a k) = _
      rw [hget]
    bv_omega
    refine ⟨nD hh.1, atI_map _ nD hkey, ?_⟩
    bv_omega
    refine forL_go (I := fun ds ρ => ∃ (m : Nat) (s6 s7 : Sl), ds = enumD m ((T.drop m).map rowD) ∧ m ≤ T.length ∧ ρ = [.fz (macD C T n), .fz (nD a), .ow false (.dct (kd (encL (procN T hh (comeN T a k) m)))), .ow false (.lst ((keysL (procN T hh (comeN T a k) m)).map nD)), .fz (nD (k + 1)), .fz (nD hh.1), s6, s7]) (fun d ds ρ Kx' hK' hI => ?_) (fun ρ hI => ?_) ⟨0, s6, s7, rfl, Nat.zero_le _, rfl⟩
    · obtain ⟨m, s6, s7, e, hm, rfl⟩ := hI
      obtain ⟨hm, rfl, rfl⟩ := enum_cons e
      obtain ⟨r, a1, a2, a3⟩ := stp_at t hm hhn
      have hr : T[m] = r := by
        have : T[m]? = some T[m] := by simp [hm]
        rw [a1] at this; simpa using this.symm
      rw [hr]
      have c' := c.procN t hmem m (by omega)
      have cl' := c'.le
      obtain ⟨E, eE⟩ := procN_sub (T := T) (L := comeN T a k) (h := hh) m
      have hmem' : hh ∈ procN T hh (comeN T a k) m := by rw [eE]; exact List.mem_append_left _ hmem
      have hlen' := c'.len hh hmem'
      bv_omega
      refine w_ixT (atI_map r nD a2) ?_
      bv_omega
      refine ⟨_, dget_kd, ?_⟩
      rw [look_some, encL_keys]
      by_cases z : stp T m hh.1 ∈ keysL (procN T hh (comeN T a k) m)
      · rw [decide_eq_true z]
        bv_omega
        refine hK' _ ⟨m + 1, .fz (nD m), .fz (rowD r), rfl, hm, ?_⟩
        have e2 : procN T hh (comeN T a k) (m + 1) = procN T hh (comeN T a k) m := by
          rw [procN, procD, if_pos z]
        rw [e2]
        rfl
      · rw [decide_eq_false z]
        have e2 : procN T hh (comeN T a k) (m + 1) = procN T hh (comeN T a k) m ++ [(stp T m hh.1, hh.2 ++ [m])] := by
          rw [procN, procD, if_neg z]
        bv_omega
        refine ⟨rowD hh.2, ?_, ?_⟩
        · show dget (.dict (kd _)) (nD hh.1) = _
          rw [dget_kd, look_enc c'.nd hmem']
        bv_omega
        refine w_addT (big (by simp; omega)) ?_
        bv_omega
        refine w_ixT (atI_map r nD a2) ?_
        bv_omega
        have hp := put_enc (L := procN T hh (comeN T a k) m) (x := stp T m hh.1) (r := hh.2 ++ [m]) (by omega) z
        have hrow : rowD (hh.2 ++ [m]) = .tuple (hh.2.map nD ++ [nD m]) := by simp
        rw [hrow] at hp
        refine w_put hp ?_
        bv_omega
        refine w_ixT (atI_map r nD a2) ?_
        bv_omega
        refine ⟨by simp [keysL]; omega, ?_⟩
        refine hK' _ ⟨m + 1, .fz (nD m), .fz (rowD r), rfl, hm, ?_⟩
        rw [e2]
        have e3 : (keysL (procN T hh (comeN T a k) m ++ [(stp T m hh.1, hh.2 ++ [m])])).map nD = (keysL (procN T hh (comeN T a k) m)).map nD ++ [nD (stp T m hh.1)] := by simp [keysL]
        rw [e3]
        rfl
    · obtain ⟨m, s6, s7, e, hm, rfl⟩ := hI
      have hm2 := enum_nil e
      have : m = T.length := by omega
      subst this
      have c' := c.procN t hmem T.length (Nat.le_refl _)
      obtain ⟨E, eE⟩ := procN_sub (T := T) (L := comeN T a k) (h := hh) T.length
      have ck := cl
      refine hK _ _ (show 9 - (k + 1) < mm by omega) ⟨k + 1, .fz (nD hh.1), s6, s7, by omega, ?_, ?_⟩
      · rw [hnext, eE, List.length_append]; omega
      · rw [hnext]
  · refine w_iteF' (decide_eq_false q) ?_
    have hk : (comeN T a k).length ≤ k := by rw [List.length_map, kl] at q; omega
    bv_omega
    have e : comeL T a = comeN T a k := comeN_stop hk 8 (by omega)
    rw [e] at h
    exact h
theorem law_come_ok {T : List (List Nat)} {n a : Nat} (t : Tab T n) (ha : a < n) (h : R (.d (.tuple [.dict (kd (encL (comeL T a))), .list ((keysL (comeL T a)).map nD)])) [.un, .un]) : dc__law_come C [.fz (tabD T), .fz (nD a)] XX R := by
  have n8 := t.n8
  have t4 := t.t4
  refine di__law_come ?_
  unfold ds__law_come
  bv_omega
  refine ⟨rfl, ?_⟩
  bv_omega
  refine ⟨⟨by decide, by decide⟩, ?_⟩
  rw [show rangeD 0 1 (8 : Int).toNat = (List.range' 0 8).map nD from rangeD1 0 8]
  refine forL_go (I := fun ds ρ => ∃ (k m : Nat) (s2 s5 s6 : Sl), ds = (List.range' k m).map nD ∧ k + m = 8 ∧ ρ = [.fz (tabD T), .fz (nD a), s2, .ow false (.dct (kd (encL (comeN T a k)))), .ow false (.lst ((keysL (comeN T a k)).map nD)), s5, s6]) (fun d ds ρ Kx hK hI => ?_) (fun ρ hI => ?_) ⟨0, 8, .un, .un, .un, rfl, rfl, rfl⟩
  · obtain ⟨k, m, s2, s5, s6, e, hk8, rfl⟩ := hI
    cases m with
    | zero => cases e
    | succ m =>
      rw [List.range'_succ] at e
      cases e
      have c := Come.at t ha k
      have cl := c.le
      have kl : (keysL (comeN T a k)).length = (comeN T a k).length := by simp [keysL]
      bv_omega
      refine w_lenS rfl (by rw [List.length_map, kl]; omega) ?_
      bv_omega
      by_cases q : (k : Int) < (((keysL (comeN T a k)).map nD).length : Int)
      · refine w_iteT' (decide_eq_true q) ?_
        have hk : k < (comeN T a k).length := by rw [List.length_map, kl] at q; omega
        obtain ⟨hh, hget⟩ : ∃ hh, (comeN T a k)[k]? = some hh := ⟨_, List.getElem?_eq_getElem hk⟩
        have hmem : hh ∈ comeN T a k := List.mem_of_getElem? hget
        have hhn := c.lt hh hmem
        have hnext : comeN T a (k + 1) = procN T hh (comeN T a k) T.length := by
          show (match (comeN T a k)[k]? with | some h => procN T h (comeN T a k) T.length | none => comeN T a k) = _
          rw [hget]
        bv_omega
        refine ⟨⟨by omega, by simp; omega⟩, ?_⟩
        have hlen : (((T.map rowD).length : Int)).toNat = T.length := by simp
        rw [hlen, show rangeD 0 1 T.length = (List.range' 0 T.length).map nD from rangeD1 0 T.length]
        refine forL_go (I := fun ds ρ => ∃ (u v : Nat) (s5 s6 : Sl), ds = (List.range' u v).map nD ∧ u + v = T.length ∧ ρ = [.fz (tabD T), .fz (nD a), .fz (nD k), .ow false (.dct (kd (encL (procN T hh (comeN T a k) u)))), .ow false (.lst ((keysL (procN T hh (comeN T a k) u)).map nD)), s5, s6]) (fun d ds ρ Kx' hK' hI => ?_) (fun ρ hI => ?_) ⟨0, T.length, s5, s6, rfl, by omega, rfl⟩
        · obtain ⟨u, v, s5, s6, e, huv, rfl⟩ := hI
          cases v with
          | zero => cases e
          | succ v =>
            rw [List.range'_succ] at e
            cases e
            have hm : u < T.length := by omega
            obtain ⟨r, a1, a2, a3⟩ := stp_at t hm hhn
            have c' := c.procN t hmem u (by omega)
            have cl' := c'.le
            obtain ⟨E, eE⟩ := procN_sub (T := T) (L := comeN T a k) (h := hh) u
            have hmem' : hh ∈ procN T hh (comeN T a k) u := by rw [eE]; exact List.mem_append_left _ hmem
            have hlen' := c'.len hh hmem'
            have hkey : (keysL (procN T hh (comeN T a k) u))[k]? = some hh.1 := by
              unfold keysL
              rw [List.getElem?_map, eE, List.getElem?_append_left hk, hget]; rfl
            bv_omega
            refine w_ixT (atI_map T rowD a1) ?_
            bv_omega
            refine ⟨nD hh.1, atI_map _ nD hkey, ?_⟩
            bv_omega
            refine w_ixT (atI_map r nD a2) ?_
            bv_omega
            refine ⟨_, dget_kd, ?_⟩
            rw [look_some, encL_keys]
            by_cases z : stp T u hh.1 ∈ keysL (procN T hh (comeN T a k) u)
            · rw [decide_eq_true z]
              bv_omega
              refine hK' _ ⟨u + 1, v, .fz (nD u), .fz (nD (stp T u hh.1)), rfl, by omega, ?_⟩
              have e2 : procN T hh (comeN T a k) (u + 1) = procN T hh (comeN T a k) u := by
                rw [procN, procD, if_pos z]
              rw [e2]
              rfl
            · rw [decide_eq_false z]
              have e2 : procN T hh (comeN T a k) (u + 1) = procN T hh (comeN T a k) u ++ [(stp T u hh.1, hh.2 ++ [u])] := by
                rw [procN, procD, if_neg z]
              bv_omega
              refine ⟨nD hh.1, atI_map _ nD hkey, ?_⟩
              bv_omega
              refine ⟨rowD hh.2, ?_, ?_⟩
              · show dget (.dict (kd _)) (nD hh.1) = _
                rw [dget_kd, look_enc c'.nd hmem']
              bv_omega
              refine w_addT (big (by simp; omega)) ?_
              bv_omega
              have hp := put_enc (L := procN T hh (comeN T a k) u) (x := stp T u hh.1) (r := hh.2 ++ [u]) (by omega) z
              have hrow : rowD (hh.2 ++ [u]) = .tuple (hh.2.map nD ++ [nD u]) := by simp
              rw [hrow] at hp
              refine w_put hp ?_
              bv_omega
              refine ⟨by simp [keysL]; omega, ?_⟩
              refine hK' _ ⟨u + 1, v, .fz (nD u), .fz (nD (stp T u hh.1)), rfl, by omega, ?_⟩
              rw [e2]
              have e3 : (keysL (procN T hh (comeN T a k) u ++ [(stp T u hh.1, hh.2 ++ [u])])).map nD = (keysL (procN T hh (comeN T a k) u)).map nD ++ [nD (stp T u hh.1)] := by simp [keysL]
              rw [e3]
              rfl
        · obtain ⟨u, v, s5, s6, e, huv, rfl⟩ := hI
          cases v with
          | succ v => cases e
          | zero =>
            have : u = T.length := by omega
            subst this
            refine hK _ ⟨k + 1, m, .fz (nD k), s5, s6, rfl, by omega, ?_⟩
            rw [hnext]
      · refine w_iteF' (decide_eq_false q) ?_
        have hk : (comeN T a k).length ≤ k := by rw [List.length_map, kl] at q; omega
        bv_omega
        refine hK _ ⟨k + 1, m, .fz (nD k), s5, s6, rfl, by omega, ?_⟩
        rw [comeN_stop hk (k + 1) (by omega)]
        rfl
  · obtain ⟨k, m, s2, s5, s6, e, hk8, rfl⟩ := hI
    cases m with
    | succ m => cases e
    | zero =>
      have : k = 8 := by omega
      subst this
      bv_omega
      exact h
end
end DL.K18
set_option Elab.async false
set_option linter.all false
set_option maxRecDepth 100000
set_option maxHeartbeats 4000000
namespace DL.K18
open PySem L2 Evl DL
theorem keysL_app (L E : PL) : keysL (L ++ E) = keysL L ++ keysL E := by simp [keysL]
theorem procN_done {T : List (List Nat)} {L : PL} {h : Nat × List Nat} : ∀ m d, d < m → stp T d h.1 ∈ keysL (procN T h L m)
  | 0, d, hd => by omega
  | m + 1, d, hd => by
    rw [procN]
    by_cases q : d = m
    · subst q
      unfold procD
      by_cases z : stp T d h.1 ∈ keysL (procN T h L d)
      · rw [if_pos z]; exact z
      · rw [if_neg z, keysL_app]
        exact List.mem_append_right _ (by simp [keysL])
    · obtain ⟨E, e⟩ := procD_sub (T := T) (L := procN T h L m) (h := h) (d := m)
      rw [e, keysL_app]
      exact List.mem_append_left _ (procN_done m d (by omega))
theorem comeN_closed {T : List (List Nat)} {a : Nat} : ∀ k i (p : Nat × List Nat), i < k → (comeN T a k)[i]? = some p → ∀ d, d < T.length → stp T d p.1 ∈ keysL (comeN T a k)
  | 0, i, p, hi, _, _, _ => by omega
  | k + 1, i, p, hi, hp, d, hd => by
    have e : comeN T a (k + 1) = match (comeN T a k)[k]? with | some h => procN T h (comeN T a k) T.length | none => comeN T a k := rfl
    cases q : (comeN T a k)[k]? with
    | none =>
      rw [q] at e
      have e : comeN T a (k + 1) = comeN T a k := e
      rw [e] at hp ⊢
      by_cases z : i = k
      · subst z; rw [q] at hp; cases hp
      · exact comeN_closed k i p (by omega) hp d hd
    | some h =>
      rw [q] at e
      have e : comeN T a (k + 1) = procN T h (comeN T a k) T.length := e
      obtain ⟨E, eE⟩ := procN_sub (T := T) (L := comeN T a k) (h := h) T.length
      have hk : k < (comeN T a k).length := (List.getElem?_eq_some_iff.mp q).1
      have hp' : (comeN T a k)[i]? = some p := by
        rw [e, eE, List.getElem?_append_left (by omega)] at hp
        exact hp
      by_cases z : i = k
      · subst z
        rw [q] at hp'
        cases hp'
        rw [e]
        exact procN_done _ d hd
      · rw [e, eE, keysL_app]
        exact List.mem_append_left _ (comeN_closed k i p (by omega) hp' d hd)
theorem rch_run {T : List (List Nat)} {a : Nat} : ∀ {row : List Nat} {s : Nat}, Row T row → Rch T a s → Rch T a (run T s row)
  | [], _, _, h => h
  | d :: row, s, hr, h => rch_run (row := row) (fun x hx => hr x (by simp [hx])) (.step h (hr d (by simp)))
theorem come_rch {T : List (List Nat)} {n a : Nat} (t : Tab T n) (ha : a < n) (s : Nat) : s ∈ keysL (comeL T a) ↔ Rch T a s := by
  have c : Come T n a (comeL T a) := Come.at t ha 8
  have cl := c.le
  have n8 := t.n8
  constructor
  · intro h
    obtain ⟨p, hp, rfl⟩ := List.mem_map.mp h
    rw [← c.run p hp]
    exact rch_run (c.row p hp) .refl
  · intro h
    induction h with
    | refl => exact c.st
    | step _ hd ih =>
      obtain ⟨p, hp, rfl⟩ := List.mem_map.mp ih
      obtain ⟨i, hi⟩ := List.getElem?_of_mem hp
      have hil : i < (comeL T a).length := (List.getElem?_eq_some_iff.mp hi).1
      exact comeN_closed 8 i p (by omega) hi _ hd
/-! ### periods -/
theorem it_add {T : List (List Nat)} {row : List Nat} {s : Nat} (i : Nat) : ∀ j, it T row (i + j) s = it T row j (it T row i s)
  | 0 => rfl
  | j + 1 => by
    show run T (it T row (i + j) s) row = run T (it T row j (it T row i s)) row
    rw [it_add i j]
/-- a state that comes round does so within as many turns as there are states -/
theorem period {T : List (List Nat)} {row : List Nat} {lot : List Nat} {s : Nat} (hc : ∀ x ∈ lot, run T x row ∈ lot) (hs : s ∈ lot) (nd : lot.Nodup) {t : Nat} (ht : 1 ≤ t) (h : it T row t s = s) : ∃ p, 1 ≤ p ∧ p ≤ lot.length ∧ it T row p s = s ∧ ∀ q, 1 ≤ q → q < p → it T row q s ≠ s := by
  -- the least one
  obtain ⟨p, hp1, hp2, hmin⟩ : ∃ p, 1 ≤ p ∧ it T row p s = s ∧ ∀ q, 1 ≤ q → q < p → it T row q s ≠ s := by
    induction t using Nat.strongRecOn with
    | _ t ih =>
      by_cases z : ∃ q, 1 ≤ q ∧ q < t ∧ it T row q s = s
      · obtain ⟨q, q1, q2, q3⟩ := z
        exact ih q q2 q1 q3
      · exact ⟨t, ht, h, fun q q1 q2 q3 => z ⟨q, q1, q2, q3⟩⟩
  refine ⟨p, hp1, ?_, hp2, hmin⟩
  have hin : ∀ k, it T row k s ∈ lot := fun k => by
    induction k with
    | zero => exact hs
    | succ k ih => exact hc _ ih
  -- its turns are all different
  have hnd : ((List.range p).map fun k => it T row k s).Nodup := by
    unfold List.Nodup
    rw [List.pairwise_map]
    refine (List.pairwise_lt_range (n := p)).imp_of_mem fun {i j} hi hj hij e => ?_
    have hjp : j < p := List.mem_range.mp hj
    -- from i on to p
    have e1 : it T row (j + (p - j)) s = s := by rw [show j + (p - j) = p by omega]; exact hp2
    rw [it_add, ← e, ← it_add] at e1
    exact hmin (i + (p - j)) (by omega) (by omega) e1
  have hsub : ∀ {A B : List Nat}, A.Nodup → (∀ x ∈ A, x ∈ B) → A.length ≤ B.length := by
    intro A
    induction A with
    | nil => intro B _ _; simp
    | cons x A ih =>
      intro B hA hB
      have hn := List.nodup_cons.mp hA
      have h1 := ih (B := B.erase x) hn.2 fun y hy => (List.mem_erase_of_ne (fun z => hn.1 (by rw [← z]; exact hy))).mpr (hB y (by simp [hy]))
      have h2 := List.length_erase (a := x) (l := B)
      rw [if_pos (hB x (by simp))] at h2
      have h3 : 0 < B.length := List.length_pos_of_mem (hB x (by simp))
      simp; omega
  have := hsub hnd fun x hx => by
    obtain ⟨k, _, rfl⟩ := List.mem_map.mp hx
    exact hin k
  simpa using this
theorem rndF_spec {T : List (List Nat)} {s : Nat} {row : List Nat} : ∀ {m k : Nat}, rndF T s row k m = 0 ∧ (∀ q, k < q → q ≤ k + m → it T row q s ≠ s) ∨ k < rndF T s row k m ∧ rndF T s row k m ≤ k + m ∧ it T row (rndF T s row k m) s = s ∧ ∀ q, k < q → q < rndF T s row k m → it T row q s ≠ s
  | 0, k => .inl ⟨rfl, fun q h1 h2 => by omega⟩
  | m + 1, k => by
    unfold rndF
    by_cases q : it T row (k + 1) s = s
    · rw [if_pos q]
      exact .inr ⟨by omega, by omega, q, fun q h1 h2 => by omega⟩
    · rw [if_neg q]
      rcases rndF_spec (T := T) (s := s) (row := row) (m := m) (k := k + 1) with ⟨h1, h2⟩ | ⟨h1, h2, h3, h4⟩
      · refine .inl ⟨h1, fun r h3 h4 => ?_⟩
        by_cases z : r = k + 1
        · subst z; exact q
        · exact h2 r (by omega) (by omega)
      · refine .inr ⟨by omega, by omega, h3, fun r h5 h6 => ?_⟩
        by_cases z : r = k + 1
        · subst z; exact q
        · exact h4 r (by omega) h6
/-- on a circle longer than one -/
def Circ (T : List (List Nat)) (row : List Nat) (s : Nat) : Prop := it T row 1 s ≠ s ∧ ∃ t, 1 ≤ t ∧ it T row t s = s
theorem rnd_circ {T : List (List Nat)} {row lot : List Nat} {s m : Nat} (hc : ∀ x ∈ lot, run T x row ∈ lot) (hs : s ∈ lot) (nd : lot.Nodup) (hm : lot.length ≤ m) : 1 < rnd T s row m ↔ Circ T row s := by
  unfold rnd
  rcases rndF_spec (T := T) (s := s) (row := row) (m := m) (k := 0) with ⟨h1, h2⟩ | ⟨h1, h2, h3, h4⟩
  · rw [h1]
    refine ⟨fun h => by omega, fun ⟨_, t, ht, e⟩ => ?_⟩
    obtain ⟨p, p1, p2, p3, _⟩ := period hc hs nd ht e
    exact absurd p3 (h2 p (by omega) (by omega))
  · constructor
    · intro h
      exact ⟨h4 1 (by omega) h, _, by omega, h3⟩
    · intro ⟨h, _⟩
      by_cases z : rndF T s row 0 m = 1
      · rw [z] at h3; exact absurd h3 h
      · omega
end DL.K18
set_option Elab.async false
set_option linter.all false
set_option maxRecDepth 100000
set_option maxHeartbeats 4000000
namespace DL.K18
open PySem L2 Evl DL
/-! ### layers: images and rows -/
abbrev LY := List (List Nat × List Nat)
abbrev kN (x : Nat) : Key := .inl (x : Int)
def kT (L : LY) : List (List Key × D) := L.map fun p => (p.1.map kN, rowD p.2)
def ims (L : LY) : List (List Nat) := L.map (·.1)
theorem kN_inj : ∀ {a b : List Nat}, a.map kN = b.map kN → a = b
  | [], [], _ => rfl
  | [], _ :: _, h => by cases h
  | _ :: _, [], h => by cases h
  | x :: a, y :: b, h => by
    rw [List.map_cons, List.map_cons] at h
    injection h with h1 h2
    have h1 : (x : Int) = (y : Int) := by injection h1
    rw [kN_inj h2, show x = y by omega]
theorem dVal_kT (im : List Nat) : ∀ L : LY, (dVal (kT L) (im.map kN)).isSome = decide (im ∈ ims L)
  | [] => rfl
  | p :: L => by
    have ih := dVal_kT im L
    unfold dVal kT at ih ⊢
    rw [List.map_cons, List.find?_cons]
    by_cases q : p.1 = im
    · have e : decide ((p.1.map kN : List Key) = im.map kN) = true := decide_eq_true (by rw [q])
      rw [e]
      simp [ims, q]
    · have e : decide ((p.1.map kN : List Key) = im.map kN) = false := decide_eq_false fun z => q (kN_inj z)
      rw [e]
      have q' : ¬ im = p.1 := fun z => q z.symm
      rw [ih]
      unfold ims
      rw [List.map_cons]
      exact decide_eq_decide.mpr ⟨fun w => List.mem_cons_of_mem _ w, fun w => (List.mem_cons.mp w).elim (fun z => absurd z q') id⟩
theorem keysOf_row : ∀ im : List Nat, keysOf (im.map nD) = some (im.map kN)
  | [] => rfl
  | x :: im => by
    rw [List.map_cons, keysOf, keysOf_row im]
    rfl
theorem keys_row (im : List Nat) : (rowD im).keys = some (im.map kN) := keysOf_row im
def addIm (L : LY) (im row : List Nat) : LY := if im ∈ ims L then L else L ++ [(im, row)]
theorem put_kT {L : LY} {im row : List Nat} (hl : L.length ≤ 1000000) (h : im ∉ ims L) : ctPut (.dctT (kT L)) (rowD im) (rowD row) = some (.dctT (kT (L ++ [(im, row)]))) := by
  have e1 : (kT L).length ≤ 1000000 := by simp [kT]; exact hl
  show (if (kT L).length ≤ 1000000 then (D.keys (rowD im)).map fun k => Ct.dctT (dPut (kT L) k (rowD row)) else none) = _
  rw [if_pos e1, keys_row]
  show some (Ct.dctT (dPut (kT L) (im.map kN) (rowD row))) = _
  have : ((kT L).any fun kv => decide (kv.1 = im.map kN)) = false := by
    rw [List.any_eq_false]
    intro kv hkv
    obtain ⟨p, hp, rfl⟩ := List.mem_map.mp hkv
    simp only [decide_eq_true_eq]
    intro z
    exact h (List.mem_map.mpr ⟨p, hp, kN_inj z⟩)
  unfold dPut
  rw [this, if_neg (by decide)]
  simp [kT]
theorem items_kT (L : LY) : dItems (.dictT (kT L)) = some (L.map fun p => .tuple [rowD p.1, rowD p.2]) := by
  show some _ = _
  congr 1
  unfold kT
  rw [List.map_map]
  apply List.map_congr_left
  intro p _
  simp [keyD]
theorem keys_kT (L : LY) : dKeys (.dictT (kT L)) = some (L.map fun p => rowD p.1) := by
  show some _ = _
  congr 1
  unfold kT
  rw [List.map_map]
  apply List.map_congr_left
  intro p _
  simp [keyD]
def longD (T : List (List Nat)) (p : List Nat × List Nat) (L : LY) : Nat → LY
  | 0 => L
  | m + 1 => addIm (longD T p L m) (p.1.map (stp T m)) (p.2 ++ [m])
def longL (T : List (List Nat)) : LY → LY → LY
  | [], acc => acc
  | p :: L, acc => longL T L (longD T p acc T.length)
theorem addIm_len (L : LY) (a b : List Nat) : (addIm L a b).length ≤ L.length + 1 := by
  unfold addIm; split <;> simp
theorem longD_len {T : List (List Nat)} {p : List Nat × List Nat} {L : LY} : ∀ m, (longD T p L m).length ≤ L.length + m
  | 0 => Nat.le_refl _
  | m + 1 => by
    have h1 := addIm_len (longD T p L m) (p.1.map (stp T m)) (p.2 ++ [m])
    have h2 := longD_len (T := T) (p := p) (L := L) m
    show (addIm (longD T p L m) (p.1.map (stp T m)) (p.2 ++ [m])).length ≤ _
    omega
section
variable {C : Addr} {XX : Exn → List Sl → Prop} {R : Rv → List Sl → Prop}
/-- a layer fit to go on from -/
structure Lay (n : Nat) (L : LY) : Prop where
  lt : ∀ p ∈ L, ∀ x ∈ p.1, x < n
  im : ∀ p ∈ L, p.1.length ≤ 8
  row : ∀ p ∈ L, p.2.length ≤ 1000
theorem longer_doings_ok {T : List (List Nat)} {n : Nat} {L : LY} (t : Tab T n) (hL : Lay n L) (hz : L.length * T.length ≤ 900000) (h : R (.d (.dictT (kT (longL T L [])))) [.un, .un]) : dc_longer_doings C [.fz (macD C T n), .fz (.dictT (kT L))] XX R := by
  have t4 := t.t4
  refine di_longer_doings ?_
  unfold ds_longer_doings
  bv_omega
  refine w_lk trivial ?_
  bv_omega
  refine w_itv (d := .dictT (kT L)) rfl (items_kT L) ?_
  refine forL_go (I := fun ds ρ => ∃ (L' A : LY) (s3 s4 s5 s6 s7 s8 : Sl), ds = L'.map (fun p => .tuple [rowD p.1, rowD p.2]) ∧ (∀ p ∈ L', p ∈ L) ∧ A.length + L'.length * T.length ≤ 900000 ∧ longL T L' A = longL T L [] ∧ ρ = [.fz (macD C T n), .fz (.dictT (kT L)), .ow false (.dctT (kT A)), s3, s4, s5, s6, s7, s8]) (fun d ds ρ Kx hK hI => ?_) (fun ρ hI => ?_) ⟨L, [], .un, .un, .un, .un, .un, .un, rfl, fun p hp => hp, by simpa using hz, rfl, rfl⟩
  · obtain ⟨L', A, s3, s4, s5, s6, s7, s8, e, hs, hA, hlong, rfl⟩ := hI
    cases L' with
    | nil => cases e
    | cons p L' =>
      cases e
      have hpL := hs p (by simp)
      have hp1 := hL.im p hpL
      have hp2 := hL.row p hpL
      have hp3 := hL.lt p hpL
      have hA2 : A.length + L'.length * T.length + T.length ≤ 900000 := by
        rw [List.length_cons, Nat.succ_mul] at hA; omega
      bv_omega
      refine forL_go (I := fun ds ρ => ∃ (m : Nat) (s5 s6 s7 s8 : Sl), ds = enumD m ((T.drop m).map rowD) ∧ m ≤ T.length ∧ ρ = [.fz (macD C T n), .fz (.dictT (kT L)), .ow false (.dctT (kT (longD T p A m))), .fz (rowD p.1), .fz (rowD p.2), s5, s6, s7, s8]) (fun d ds ρ Kx' hK' hI => ?_) (fun ρ hI => ?_) ⟨0, s5, s6, s7, s8, rfl, Nat.zero_le _, rfl⟩
      · obtain ⟨m, s5, s6, s7, s8, e, hm, rfl⟩ := hI
        obtain ⟨hm, rfl, rfl⟩ := enum_cons e
        have hl := longD_len (T := T) (p := p) (L := A) m
        have hT : T[m]? = some T[m] := by simp [hm]
        have hmem : T[m] ∈ T := List.getElem_mem hm
        have hat : ∀ x, x < n → (T[m])[x]? = some (stp T m x) := fun x hx => by
          obtain ⟨r, a1, a2, _⟩ := stp_at t hm hx
          rw [hT] at a1
          cases a1
          exact a2
        bv_omega
        refine w_nlc ?_
        bv_omega
        refine ⟨by simp; omega, ?_⟩
        refine lcL_go (I := fun ds acc ρ => ∃ (a b : List Nat), ds = b.map nD ∧ p.1 = a ++ b ∧ acc = (a.map (stp T m)).map nD ∧ ρ = [.fz (macD C T n), .fz (.dictT (kT L)), .ow false (.dctT (kT (longD T p A m))), .fz (rowD p.1), .fz (rowD p.2), .fz (nD m), .fz (rowD T[m]), s7, .un]) (fun d ds acc ρ Kz hKz hIz => ?_) (fun acc ρ hIz => ?_) ⟨[], p.1, rfl, rfl, rfl, rfl⟩
        · obtain ⟨a, b, e, hab, rfl, rfl⟩ := hIz
          cases b with
          | nil => cases e
          | cons x b =>
            cases e
            have hx : x < n := hp3 x (by rw [hab]; simp)
            bv_omega
            refine w_ixT (atI_map _ nD (hat x hx)) ?_
            bv_omega
            exact hKz _ _ ⟨a ++ [x], b, rfl, by rw [hab]; simp, by simp, rfl⟩
        · obtain ⟨a, b, e, hab, rfl, rfl⟩ := hIz
          cases b with
          | cons x b => cases e
          | nil =>
            have ha : a = p.1 := by rw [hab]; simp
            subst ha
            bv_omega
            refine ⟨_, show dget (.dictT (kT (longD T p A m))) (rowD (p.1.map (stp T m))) = some (dVal (kT (longD T p A m)) ((p.1.map (stp T m)).map kN)) from by
              show (D.keys (rowD (p.1.map (stp T m)))).map (dVal (kT (longD T p A m))) = _
              rw [keys_row]; rfl, ?_⟩
            rw [dVal_kT]
            by_cases z : p.1.map (stp T m) ∈ ims (longD T p A m)
            · rw [decide_eq_true z]
              bv_omega
              refine hK' _ ⟨m + 1, .fz (nD m), .fz (rowD T[m]), .fz (rowD (p.1.map (stp T m))), fzOnly s8, rfl, hm, ?_⟩
              have e2 : longD T p A (m + 1) = longD T p A m := by rw [longD, addIm, if_pos z]
              rw [e2]
              rfl
            · rw [decide_eq_false z]
              have e2 : longD T p A (m + 1) = longD T p A m ++ [(p.1.map (stp T m), p.2 ++ [m])] := by rw [longD, addIm, if_neg z]
              bv_omega
              refine w_addT (big (by simp; omega)) ?_
              bv_omega
              have hp := put_kT (L := longD T p A m) (im := p.1.map (stp T m)) (row := p.2 ++ [m]) (by omega) z
              have hrow : rowD (p.2 ++ [m]) = .tuple (p.2.map nD ++ [nD m]) := by simp
              rw [hrow] at hp
              refine w_put hp ?_
              refine hK' _ ⟨m + 1, .fz (nD m), .fz (rowD T[m]), .fz (rowD (p.1.map (stp T m))), fzOnly s8, rfl, hm, ?_⟩
              rw [e2]
              rfl
      · obtain ⟨m, s5, s6, s7, s8, e, hm, rfl⟩ := hI
        have hm2 := enum_nil e
        have : m = T.length := by omega
        subst this
        have hl := longD_len (T := T) (p := p) (L := A) T.length
        exact hK _ ⟨L', longD T p A T.length, _, _, s5, s6, s7, s8, rfl, fun q hq => hs q (by simp [hq]), by omega, hlong, rfl⟩
  · obtain ⟨L', A, s3, s4, s5, s6, s7, s8, e, hs, hA, hlong, rfl⟩ := hI
    cases L' with
    | cons p L' => cases e
    | nil =>
      have hlong : A = longL T L [] := hlong
      subst hlong
      bv_omega
      exact h
end
end DL.K18
set_option Elab.async false
set_option linter.all false
set_option maxRecDepth 100000
set_option maxHeartbeats 4000000
namespace DL.K18
open PySem L2 Evl DL
/-! ### turned states -/
/-- where the walk from s stands that stops at s, after j turns more than one -/
def lp (T : List (List Nat)) (row : List Nat) (s : Nat) : Nat → Nat
  | 0 => run T s row
  | j + 1 => if lp T row s j = s then s else run T (lp T row s j) row
theorem lp_spec {T : List (List Nat)} {row : List Nat} {s : Nat} : ∀ j, (lp T row s j = s ∧ ∃ t, 1 ≤ t ∧ t ≤ j + 1 ∧ it T row t s = s) ∨ (lp T row s j ≠ s ∧ lp T row s j = it T row (j + 1) s ∧ ∀ t, 1 ≤ t → t ≤ j + 1 → it T row t s ≠ s)
  | 0 => by
    by_cases q : run T s row = s
    · exact .inl ⟨q, 1, by omega, by omega, q⟩
    · refine .inr ⟨q, rfl, fun t h1 h2 => ?_⟩
      have : t = 1 := by omega
      subst this; exact q
  | j + 1 => by
    unfold lp
    rcases lp_spec (T := T) (row := row) (s := s) j with ⟨h1, t, h2, h3, h4⟩ | ⟨h1, h2, h3⟩
    · rw [if_pos h1]
      exact .inl ⟨rfl, t, h2, by omega, h4⟩
    · rw [if_neg h1, h2]
      by_cases q : it T row (j + 1 + 1) s = s
      · exact .inl ⟨q, j + 2, by omega, by omega, q⟩
      · refine .inr ⟨q, rfl, fun t h4 h5 => ?_⟩
        by_cases z : t = j + 2
        · subst z; exact q
        · exact h3 t h4 (by omega)
def turnB (T : List (List Nat)) (row : List Nat) (s : Nat) : Bool := decide (1 < rnd T s row 8)
theorem turn_lp {T : List (List Nat)} {row lot : List Nat} {s : Nat} (hc : ∀ x ∈ lot, run T x row ∈ lot) (hs : s ∈ lot) (nd : lot.Nodup) (h8 : lot.length ≤ 8) : (decide (lp T row s lot.length = s) && !decide (run T s row = s)) = turnB T row s := by
  unfold turnB
  have hr := rnd_circ hc hs nd h8
  have : (lp T row s lot.length = s ∧ ¬ run T s row = s) ↔ 1 < rnd T s row 8 := by
    rw [hr]
    constructor
    · intro ⟨h1, h2⟩
      rcases lp_spec (T := T) (row := row) (s := s) lot.length with ⟨_, t, h3, _, h5⟩ | ⟨h3, _⟩
      · exact ⟨h2, t, h3, h5⟩
      · exact absurd h1 h3
    · intro ⟨h1, t, h2, h3⟩
      refine ⟨?_, h1⟩
      rcases lp_spec (T := T) (row := row) (s := s) lot.length with ⟨h4, _⟩ | ⟨_, _, h6⟩
      · exact h4
      · obtain ⟨p, p1, p2, p3, _⟩ := period hc hs nd h2 h3
        exact absurd p3 (h6 p p1 (by omega))
  by_cases z : 1 < rnd T s row 8
  · rw [decide_eq_true z, decide_eq_true (this.mpr z).1, decide_eq_false (this.mpr z).2]; rfl
  · rw [decide_eq_false z]
    by_cases z1 : lp T row s lot.length = s
    · by_cases z2 : run T s row = s
      · rw [decide_eq_true z2]; simp
      · exact absurd (this.mp ⟨z1, z2⟩) z
    · rw [decide_eq_false z1]; rfl
section
variable {C : Addr} {XX : Exn → List Sl → Prop} {R : Rv → List Sl → Prop}
def endL (T : List (List Nat)) (row lot : List Nat) : List (Nat × D) := lot.map fun s => (s, nD (run T s row))
theorem endL_keys (T : List (List Nat)) (row lot : List Nat) : (endL T row lot).map (·.1) = lot := by
  unfold endL; rw [List.map_map]; exact List.map_id' _
theorem look_end {T : List (List Nat)} {row : List Nat} {x : Nat} : ∀ {lot : List Nat}, x ∈ lot → look (endL T row lot) x = some (nD (run T x row))
  | [], h => by simp at h
  | y :: lot, h => by
    unfold look endL
    rw [List.map_cons, List.find?_cons]
    by_cases q : y = x
    · subst q; simp
    · rw [decide_eq_false q]
      exact look_end (lot := lot) ((List.mem_cons.mp h).resolve_left (fun z => q z.symm))
/-- the dict, owned still or read before -/
def EndS (E : List (Key × D)) (s : Sl) : Prop := s = .ow false (.dct E) ∨ s = .fz (.dict E)
theorem end_get {T : List (List Nat)} {row lot : List Nat} {x : Nat} {s0 s1 s2 s3 s4 s5 s6 s7 : Sl} {X : XP} {K : D → Env → Prop} {j : Nat} (he : EndS (kd (endL T row lot)) s2) (hx : x ∈ lot) (hj : gt [s0, s1, s2, s3, s4, s5, s6, s7] j = .fz (nD x)) (hj2 : j ≠ 2)
    (h : K (nD (run T x row)) [s0, s1, .fz (.dict (kd (endL T row lot))), s3, s4, s5, s6, s7]) : eGet (eVarF 2) (eVarF j) [s0, s1, s2, s3, s4, s5, s6, s7] X K := by
  have hj' : gt [s0, s1, .fz (.dict (kd (endL T row lot))), s3, s4, s5, s6, s7] j = .fz (nD x) := by
    unfold gt at hj ⊢
    match j, hj, hj2 with
    | 0, hj, _ => exact hj
    | 1, hj, _ => exact hj
    | 2, _, h => exact absurd rfl h
    | j + 3, hj, _ => exact hj
  have fin : eVarF j [s0, s1, .fz (.dict (kd (endL T row lot))), s3, s4, s5, s6, s7] X (fun k ρ2 => ∃ d, dget (.dict (kd (endL T row lot))) k = some (some d) ∧ K d ρ2) :=
    w_var hj' ⟨_, by rw [dget_kd, look_end hx], h⟩
  rcases he with rfl | rfl
  · exact w_get (w_varO rfl fin)
  · exact w_get (w_var rfl fin)
theorem turned_states_ok {T : List (List Nat)} {row lot : List Nat} (hc : ∀ x ∈ lot, run T x row ∈ lot) (nd : lot.Nodup) (h8 : lot.length ≤ 8) (h : R (.d (.list ((lot.filter (turnB T row)).map nD))) [.un, .un]) : dc_turned_states C [.fz (rowD lot), .fz (rowD (lot.map fun s => run T s row))] XX R := by
  refine di_turned_states ?_
  unfold ds_turned_states
  bv_omega
  refine w_ndc ?_
  bv_omega
  have hzip : zipD (lot.map nD) ((lot.map fun s => run T s row).map nD) = lot.map fun s => .tuple [nD s, nD (run T s row)] := by
    unfold zipD
    rw [List.map_map]
    clear h nd hc h8
    induction lot with
    | nil => rfl
    | cons x lot ih => simp [ih]
  rw [hzip]
  refine ⟨by simp; omega, ?_⟩
  refine dcL_go (I := fun ds acc ρ => ∃ (a b : List Nat), ds = b.map (fun s => .tuple [nD s, nD (run T s row)]) ∧ lot = a ++ b ∧ acc = kd (endL T row a) ∧ ρ = [.fz (rowD lot), .fz (rowD (lot.map fun s => run T s row)), .un, .un, .un, .un, .un, .un]) (fun d ds acc ρ Kz hKz hIz => ?_) (fun acc ρ hIz => ?_) ⟨[], lot, rfl, rfl, rfl, rfl⟩
  · obtain ⟨a, b, e, hab, rfl, rfl⟩ := hIz
    cases b with
    | nil => cases e
    | cons x b =>
      cases e
      bv_omega
      refine w_ofS (x := (.inl (x : Int))) rfl ?_
      have hxa : x ∉ a := fun z => by
        rw [hab] at nd
        exact (List.nodup_append.mp nd).2.2 x z x (by simp) rfl
      refine hKz _ _ ⟨a ++ [x], b, rfl, by rw [hab]; simp, ?_, rfl⟩
      rw [dPut_kd (by rw [endL_keys]; exact hxa)]
      simp [endL]
  · obtain ⟨a, b, e, hab, rfl, rfl⟩ := hIz
    cases b with
    | cons x b => cases e
    | nil =>
      have ha : a = lot := by rw [hab]; simp
      subst ha
      bv_omega
      refine forL_go (I := fun ds ρ => ∃ (u v : List Nat) (s2 s4 s5 s6 : Sl), ds = v.map nD ∧ a = u ++ v ∧ EndS (kd (endL T row a)) s2 ∧ ρ = [.fz (rowD a), .fz (rowD (a.map fun s => run T s row)), s2, .ow false (.lst ((u.filter (turnB T row)).map nD)), s4, s5, s6, .un]) (fun d ds ρ Kx hK hI => ?_) (fun ρ hI => ?_) ⟨[], a, .ow false (.dct (kd (endL T row a))), .un, .un, .un, rfl, rfl, .inl rfl, rfl⟩
      · obtain ⟨u, v, s2, s4, s5, s6, e, huv, hes, rfl⟩ := hI
        cases v with
        | nil => cases e
        | cons s v =>
          cases e
          have hsa : s ∈ a := by rw [huv]; simp
          have hlp : ∀ j, lp T row s j ∈ a := fun j => by
            induction j with
            | zero => exact hc s hsa
            | succ j ih =>
              unfold lp
              by_cases z : lp T row s j = s
              · rw [if_pos z]; exact hsa
              · rw [if_neg z]; exact hc _ ih
          bv_omega
          refine end_get (j := 4) hes hsa rfl (by decide) ?_
          bv_omega
          refine forL_go (I := fun ds ρ => ∃ (j : Nat) (w : List Nat) (s6 : Sl), ds = w.map nD ∧ j + w.length = a.length ∧ ρ = [.fz (rowD a), .fz (rowD (a.map fun s => run T s row)), .fz (.dict (kd (endL T row a))), .ow false (.lst ((u.filter (turnB T row)).map nD)), .fz (nD s), .fz (nD (lp T row s j)), s6, .un]) (fun d ds ρ Ky hKy hIy => ?_) (fun ρ hIy => ?_) ⟨0, a, s6, rfl, by omega, rfl⟩
          · obtain ⟨j, w, s6, e, hjw, rfl⟩ := hIy
            cases w with
            | nil => cases e
            | cons x w =>
              cases e
              bv_omega
              by_cases z : (lp T row s j : Int) = (s : Int)
              · rw [decide_eq_true z]
                bv_omega
                refine hKy _ ⟨j + 1, w, .fz (nD x), rfl, by simp at hjw; omega, ?_⟩
                have : lp T row s (j + 1) = lp T row s j := by
                  show (if lp T row s j = s then s else _) = _
                  rw [if_pos (by omega)]; omega
                rw [this]
                rfl
              · rw [decide_eq_false z]
                bv_omega
                refine end_get (j := 5) (.inr rfl) (hlp j) rfl (by decide) ?_
                bv_omega
                refine hKy _ ⟨j + 1, w, .fz (nD x), rfl, by simp at hjw; omega, ?_⟩
                have : lp T row s (j + 1) = run T (lp T row s j) row := by
                  show (if lp T row s j = s then s else _) = _
                  rw [if_neg (by omega)]
                rw [this]
                rfl
          · obtain ⟨j, w, s6, e, hjw, rfl⟩ := hIy
            cases w with
            | cons x w => cases e
            | nil =>
              have hj : j = a.length := by simpa using hjw
              subst hj
              have ht := turn_lp hc hsa nd h8
              bv_omega
              by_cases z : (lp T row s a.length : Int) = (s : Int)
              · rw [decide_eq_true z]
                bv_omega
                refine end_get (j := 4) (.inr rfl) hsa rfl (by decide) ?_
                bv_omega
                by_cases z2 : (run T s row : Int) = (s : Int)
                · rw [decide_eq_true z2]
                  bv_omega
                  rw [decide_eq_true (show lp T row s a.length = s by omega), decide_eq_true (show run T s row = s by omega)] at ht
                  refine hK _ ⟨u ++ [s], v, _, .fz (nD s), .fz (nD (lp T row s a.length)), s6, rfl, by rw [huv]; simp, .inr rfl, ?_⟩
                  have : (u ++ [s]).filter (turnB T row) = u.filter (turnB T row) := by
                    rw [List.filter_append]; simp [← ht]
                  rw [this]
                · rw [decide_eq_false z2]
                  bv_omega
                  rw [decide_eq_true (show lp T row s a.length = s by omega), decide_eq_false (show ¬ run T s row = s by omega)] at ht
                  refine ⟨by have := List.length_filter_le (turnB T row) u; have hl : u.length ≤ a.length := by rw [huv]; simp
                             rw [List.length_map]; omega, ?_⟩
                  refine hK _ ⟨u ++ [s], v, _, .fz (nD s), .fz (nD (lp T row s a.length)), s6, rfl, by rw [huv]; simp, .inr rfl, ?_⟩
                  have : ((u ++ [s]).filter (turnB T row)).map nD = (u.filter (turnB T row)).map nD ++ [nD s] := by
                    rw [List.filter_append]; simp [← ht]
                  rw [this]
                  rfl
              · rw [decide_eq_false z]
                bv_omega
                rw [decide_eq_false (show ¬ lp T row s a.length = s by omega)] at ht
                refine hK _ ⟨u ++ [s], v, _, .fz (nD s), .fz (nD (lp T row s a.length)), s6, rfl, by rw [huv]; simp, .inr rfl, ?_⟩
                have : (u ++ [s]).filter (turnB T row) = u.filter (turnB T row) := by
                  rw [List.filter_append]; simp [← ht]
                rw [this]
      · obtain ⟨u, v, s2, s4, s5, s6, e, huv, hes, rfl⟩ := hI
        cases v with
        | cons s v => cases e
        | nil =>
          have hu : u = a := by rw [huv]; simp
          subst hu
          bv_omega
          exact h
end
end DL.K18
set_option Elab.async false
set_option linter.all false
set_option maxRecDepth 100000
set_option maxHeartbeats 4000000
namespace DL.K18
open PySem L2 Evl DL
/-! ### layers and all rows -/
def imgs (T : List (List Nat)) (lot row : List Nat) : List Nat := lot.map fun s => run T s row
def blockR (T : List (List Nat)) (row : List Nat) : List (List Nat) := (List.range T.length).map fun d => row ++ [d]
def ext (T : List (List Nat)) : List (List Nat) → List (List Nat)
  | [] => []
  | row :: rows => blockR T row ++ ext T rows
def firL (T : List (List Nat)) (lot : List Nat) : List (List Nat) → LY → LY
  | [], acc => acc
  | row :: rows, acc => firL T lot rows (addIm acc (imgs T lot row) row)
/-- the rows that are kept behind those in K -/
def kept (T : List (List Nat)) (lot : List Nat) : List (List Nat) → List (List Nat) → List (List Nat)
  | [], _ => []
  | row :: rows, K => if imgs T lot row ∈ K.map (imgs T lot) then kept T lot rows K else row :: kept T lot rows (K ++ [row])
variable {T : List (List Nat)} {lot : List Nat}
theorem imgs_app (row : List Nat) (d : Nat) : imgs T lot (row ++ [d]) = (imgs T lot row).map (stp T d) := by
  unfold imgs
  rw [List.map_map]
  apply List.map_congr_left
  intro s _
  exact run_app
theorem firL_app : ∀ (a b : List (List Nat)) (acc : LY), firL T lot (a ++ b) acc = firL T lot b (firL T lot a acc)
  | [], b, acc => rfl
  | r :: a, b, acc => firL_app a b _
theorem longD_fir (row : List Nat) (acc : LY) : ∀ m, longD T (imgs T lot row, row) acc m = firL T lot ((List.range m).map fun d => row ++ [d]) acc
  | 0 => rfl
  | m + 1 => by
    rw [List.range_succ, List.map_append, firL_app, ← longD_fir row acc m]
    show addIm (longD T (imgs T lot row, row) acc m) ((imgs T lot row).map (stp T m)) (row ++ [m]) = addIm (longD T (imgs T lot row, row) acc m) (imgs T lot (row ++ [m])) (row ++ [m])
    rw [imgs_app]
theorem longL_fir : ∀ (rs : List (List Nat)) (acc : LY), longL T (rs.map fun r => (imgs T lot r, r)) acc = firL T lot (ext T rs) acc
  | [], acc => rfl
  | r :: rs, acc => by
    rw [List.map_cons, longL, longD_fir, longL_fir rs]
    show _ = firL T lot (blockR T r ++ ext T rs) acc
    rw [firL_app]
    rfl
theorem ims_app (A B : LY) : ims (A ++ B) = ims A ++ ims B := by simp [ims]
theorem addIm_sub {A : LY} {im row : List Nat} : ∀ x ∈ ims A, x ∈ ims (addIm A im row) := fun x hx => by
  unfold addIm
  split
  · exact hx
  · rw [ims_app]; exact List.mem_append_left _ hx
theorem addIm_in {A : LY} {im row : List Nat} : im ∈ ims (addIm A im row) := by
  unfold addIm
  split
  · assumption
  · rw [ims_app]; exact List.mem_append_right _ (by simp [ims])
theorem firL_sub : ∀ (rs : List (List Nat)) (A : LY), ∀ x ∈ ims A, x ∈ ims (firL T lot rs A)
  | [], A, x, hx => hx
  | r :: rs, A, x, hx => firL_sub rs _ x (addIm_sub x hx)
theorem firL_in : ∀ (rs : List (List Nat)) (A : LY), ∀ r ∈ rs, imgs T lot r ∈ ims (firL T lot rs A)
  | r :: rs, A, q, hq => by
    rcases List.mem_cons.mp hq with rfl | hq
    · exact firL_sub rs _ _ addIm_in
    · exact firL_in rs _ q hq
theorem firL_old : ∀ (rs : List (List Nat)) (A : LY), (∀ r ∈ rs, imgs T lot r ∈ ims A) → firL T lot rs A = A
  | [], A, _ => rfl
  | r :: rs, A, h => by
    have e : addIm A (imgs T lot r) r = A := by unfold addIm; rw [if_pos (h r (by simp))]
    rw [firL, e]
    exact firL_old rs A fun q hq => h q (by simp [hq])
/-- what is first met are the kept rows -/
theorem firL_kept : ∀ (rs K : List (List Nat)), firL T lot rs (K.map fun r => (imgs T lot r, r)) = (K ++ kept T lot rs K).map fun r => (imgs T lot r, r)
  | [], K => by simp [firL, kept]
  | r :: rs, K => by
    have hims : ims (K.map fun r => (imgs T lot r, r)) = K.map (imgs T lot) := by simp [ims]
    unfold firL kept addIm
    rw [hims]
    by_cases q : imgs T lot r ∈ K.map (imgs T lot)
    · rw [if_pos q, if_pos q]; exact firL_kept rs K
    · rw [if_neg q, if_neg q]
      have := firL_kept rs (K ++ [r])
      rw [List.map_append] at this
      rw [show K.map (fun r => (imgs T lot r, r)) ++ [(imgs T lot r, r)] = K.map (fun r => (imgs T lot r, r)) ++ [r].map (fun r => (imgs T lot r, r)) from rfl, this]
      simp
theorem ext_kept : ∀ (rs K : List (List Nat)) (A : LY), (∀ k ∈ K, ∀ d, d < T.length → imgs T lot (k ++ [d]) ∈ ims A) → firL T lot (ext T (kept T lot rs K)) A = firL T lot (ext T rs) A
  | [], K, A, _ => rfl
  | r :: rs, K, A, h => by
    unfold kept
    by_cases q : imgs T lot r ∈ K.map (imgs T lot)
    · rw [if_pos q, ext_kept rs K A h]
      obtain ⟨k, hk, e⟩ := List.mem_map.mp q
      show _ = firL T lot (blockR T r ++ ext T rs) A
      rw [firL_app, firL_old (blockR T r) A]
      intro x hx
      obtain ⟨d, hd, rfl⟩ := List.mem_map.mp hx
      have := h k hk d (List.mem_range.mp hd)
      rw [imgs_app] at this ⊢
      rw [← e]; exact this
    · rw [if_neg q]
      show firL T lot (blockR T r ++ ext T (kept T lot rs (K ++ [r]))) A = firL T lot (blockR T r ++ ext T rs) A
      rw [firL_app, firL_app]
      refine ext_kept rs (K ++ [r]) _ fun k hk d hd => ?_
      rcases List.mem_append.mp hk with hk | hk
      · exact firL_sub _ _ _ (h k hk d hd)
      · rw [List.mem_singleton.mp hk]
        exact firL_in _ _ _ (List.mem_map.mpr ⟨d, List.mem_range.mpr hd, rfl⟩)
def lay (T : List (List Nat)) (lot : List Nat) (rs : List (List Nat)) : LY := firL T lot rs []
theorem lay_kept (rs : List (List Nat)) : lay T lot rs = (kept T lot rs []).map fun r => (imgs T lot r, r) := by
  have := firL_kept (T := T) (lot := lot) rs []
  unfold lay
  simpa using this
theorem lay_ext (rs : List (List Nat)) : longL T (lay T lot rs) [] = lay T lot (ext T rs) := by
  rw [lay_kept, longL_fir]
  exact ext_kept rs [] [] fun k hk => by simp at hk
theorem kept_sub : ∀ (rs K : List (List Nat)), ∀ r ∈ kept T lot rs K, r ∈ rs
  | [], K, r, h => by simp [kept] at h
  | q :: rs, K, r, h => by
    unfold kept at h
    split at h
    · exact List.mem_cons_of_mem _ (kept_sub rs K r h)
    · rcases List.mem_cons.mp h with rfl | h
      · simp
      · exact List.mem_cons_of_mem _ (kept_sub rs _ r h)
/-- the first row of a kind is kept, where the kind goes by the images -/
theorem kept_find (p : List Nat → Bool) (hp : ∀ a b, imgs T lot a = imgs T lot b → p a = p b) : ∀ (rs K : List (List Nat)), (∀ k ∈ K, p k = false) → (kept T lot rs K).find? p = rs.find? p
  | [], K, _ => rfl
  | r :: rs, K, h => by
    unfold kept
    by_cases q : imgs T lot r ∈ K.map (imgs T lot)
    · rw [if_pos q]
      obtain ⟨k, hk, e⟩ := List.mem_map.mp q
      have : p r = false := by rw [← hp k r e]; exact h k hk
      rw [List.find?_cons, this]
      exact kept_find p hp rs K h
    · rw [if_neg q, List.find?_cons, List.find?_cons]
      cases z : p r with
      | true => rfl
      | false =>
        refine kept_find p hp rs (K ++ [r]) fun k hk => ?_
        rcases List.mem_append.mp hk with hk | hk
        · exact h k hk
        · rw [List.mem_singleton.mp hk]; exact z
/-- what is turned goes by the images -/
theorem it_imgs (hc : ∀ d, d < T.length → ∀ x ∈ lot, stp T d x ∈ lot) {a b : List Nat} (ha : Row T a) (h : imgs T lot a = imgs T lot b) : ∀ t, ∀ s ∈ lot, it T a t s = it T b t s ∧ it T a t s ∈ lot := by
  have hrun : ∀ s ∈ lot, run T s a = run T s b := fun s hs => by
    unfold imgs at h
    exact List.map_inj_left.mp h s hs
  have hin : ∀ (row : List Nat), Row T row → ∀ s ∈ lot, run T s row ∈ lot := by
    intro row
    induction row with
    | nil => intro _ s hs; exact hs
    | cons d row ih => intro hr s hs; exact ih (fun x hx => hr x (by simp [hx])) _ (hc d (hr d (by simp)) s hs)
  intro t
  induction t with
  | zero => intro s hs; exact ⟨rfl, hs⟩
  | succ t ih =>
    intro s hs
    obtain ⟨e, m⟩ := ih s hs
    show run T (it T a t s) a = run T (it T b t s) b ∧ run T (it T a t s) a ∈ lot
    rw [← e]
    exact ⟨hrun _ m, hin a ha _ m⟩
theorem rndF_eq {a b : List Nat} {s : Nat} (h : ∀ t, it T a t s = it T b t s) : ∀ m k, rndF T s a k m = rndF T s b k m
  | 0, _ => rfl
  | m + 1, k => by
    unfold rndF
    rw [h (k + 1), rndF_eq h m (k + 1)]
theorem turnB_imgs (hc : ∀ d, d < T.length → ∀ x ∈ lot, stp T d x ∈ lot) {a b : List Nat} (ha : Row T a) (h : imgs T lot a = imgs T lot b) {s : Nat} (hs : s ∈ lot) : turnB T a s = turnB T b s := by
  unfold turnB rnd
  rw [rndF_eq (fun t => (it_imgs hc ha h t s hs).1)]
theorem ext_row : ∀ (rs : List (List Nat)), (∀ r ∈ rs, Row T r) → ∀ r ∈ ext T rs, Row T r
  | [], _, r, h => by simp [ext] at h
  | q :: rs, hr, r, h => by
    rcases List.mem_append.mp h with h | h
    · obtain ⟨d, hd, rfl⟩ := List.mem_map.mp h
      intro x hx
      rcases List.mem_append.mp hx with hx | hx
      · exact hr q (by simp) x hx
      · rw [List.mem_singleton.mp hx]; exact List.mem_range.mp hd
    · exact ext_row rs (fun y hy => hr y (by simp [hy])) r h
theorem ext_len : ∀ (rs : List (List Nat)), (ext T rs).length = rs.length * T.length
  | [] => by simp [ext]
  | q :: rs => by
    show (blockR T q ++ ext T rs).length = _
    rw [List.length_append, ext_len rs]
    simp [blockR, Nat.succ_mul]; omega
/-- the rows of a length -/
def rowsN (T : List (List Nat)) : Nat → List (List Nat)
  | 0 => [[]]
  | k + 1 => ext T (rowsN T k)
theorem rowsN_row : ∀ k, ∀ r ∈ rowsN T k, Row T r
  | 0, r, h => by rw [List.mem_singleton.mp h]; intro x hx; simp at hx
  | k + 1, r, h => ext_row _ (rowsN_row k) r h
theorem rowsN_len : ∀ k, (rowsN T k).length = T.length ^ k
  | 0 => rfl
  | k + 1 => by
    show (ext T (rowsN T k)).length = _
    rw [ext_len, rowsN_len k, Nat.pow_succ]
theorem ext_rowlen {m : Nat} : ∀ (rs : List (List Nat)), (∀ r ∈ rs, r.length = m) → ∀ r ∈ ext T rs, r.length = m + 1
  | [], _, r, h => by simp [ext] at h
  | q :: rs, hr, r, h => by
    rcases List.mem_append.mp h with h | h
    · obtain ⟨d, hd, rfl⟩ := List.mem_map.mp h
      simp [hr q (by simp)]
    · exact ext_rowlen rs (fun y hy => hr y (by simp [hy])) r h
theorem rowsN_rowlen : ∀ k, ∀ r ∈ rowsN T k, r.length = k
  | 0, r, h => by rw [List.mem_singleton.mp h]; rfl
  | k + 1, r, h => ext_rowlen _ (rowsN_rowlen k) r h
end DL.K18
set_option Elab.async false
set_option linter.all false
set_option maxRecDepth 100000
set_option maxHeartbeats 4000000
namespace DL.K18
open PySem L2 Evl DL
theorem set_same {ρ : Env} {i : Nat} {d : D} (h : gt ρ i = .fz d) : ρ.set i (.fz d) = ρ := by
  apply List.ext_getElem?
  intro j
  by_cases q : i = j
  · subst q
    unfold gt at h
    by_cases hl : i < ρ.length
    · rw [List.getElem?_set_self hl]
      rw [List.getD, List.getElem?_eq_getElem hl] at h
      rw [List.getElem?_eq_getElem hl]
      simpa using h.symm
    · rw [List.getD, List.getElem?_eq_none (by omega)] at h
      cases h
  · rw [List.getElem?_set_ne q]
/-- a slot, its own thing or frozen already -/
def Two (s : Sl) (c : Ct) : Prop := s = .ow false c ∨ s = .fz c.d
theorem w_varB {ρ : Env} {i : Nat} {X : XP} {K : D → Env → Prop} {c : Ct} (h : Two (gt ρ i) c) (k : K c.d (ρ.set i (.fz c.d))) : eVarF i ρ X K := by
  rcases h with h | h
  · exact w_varO h k
  · rw [set_same h] at k
    exact w_var h k
/-- some state on the order is turned by the row -/
def hitO (T : List (List Nat)) (a : Nat) (r : List Nat) : Bool := (keysL (comeL T a)).any (turnB T r)
theorem any_find {α : Type} (p : α → Bool) : ∀ xs : List α, xs.any p = (xs.find? p).isSome
  | [] => rfl
  | x :: xs => by
    rw [List.any_cons, List.find?_cons]
    cases p x with
    | true => rfl
    | false => simpa using any_find p xs
/-- the lot: what is reached, in order -/
structure Lot (T : List (List Nat)) (n a : Nat) (lot : List Nat) : Prop where
  nd : lot.Nodup
  mem : ∀ s, s ∈ lot ↔ Rch T a s
theorem Lot.closed {T : List (List Nat)} {n a : Nat} {lot : List Nat} (l : Lot T n a lot) : ∀ d, d < T.length → ∀ x ∈ lot, stp T d x ∈ lot := fun d hd x hx => (l.mem _).mpr (.step ((l.mem x).mp hx) hd)
theorem Lot.run {T : List (List Nat)} {n a : Nat} {lot : List Nat} (l : Lot T n a lot) {r : List Nat} (hr : Row T r) : ∀ x ∈ lot, run T x r ∈ lot := fun x hx => (l.mem _).mpr (rch_run hr ((l.mem x).mp hx))
theorem Lot.lt {T : List (List Nat)} {n a : Nat} {lot : List Nat} (t : Tab T n) (ha : a < n) (l : Lot T n a lot) : ∀ x ∈ lot, x < n := fun x hx => ((l.mem x).mp hx).lt t ha
theorem Lot.le {T : List (List Nat)} {n a : Nat} {lot : List Nat} (t : Tab T n) (ha : a < n) (l : Lot T n a lot) : lot.length ≤ 8 := Nat.le_trans (nodup_le l.nd (l.lt t ha)) t.n8
theorem Lot.hit {T : List (List Nat)} {n a : Nat} {lot : List Nat} (t : Tab T n) (ha : a < n) (l : Lot T n a lot) (r : List Nat) : decide (0 < (lot.filter (turnB T r)).length) = hitO T a r := by
  have : 0 < (lot.filter (turnB T r)).length ↔ hitO T a r = true := by
    unfold hitO
    rw [List.any_eq_true]
    constructor
    · intro h
      obtain ⟨x, hx⟩ := List.exists_mem_of_length_pos h
      obtain ⟨h1, h2⟩ := List.mem_filter.mp hx
      exact ⟨x, (come_rch t ha x).mpr ((l.mem x).mp h1), h2⟩
    · intro ⟨x, h1, h2⟩
      exact List.length_pos_of_mem (List.mem_filter.mpr ⟨(l.mem x).mpr ((come_rch t ha x).mp h1), h2⟩)
  cases z : hitO T a r with
  | true => exact decide_eq_true (this.mpr z)
  | false => exact decide_eq_false fun h => by rw [this.mp h] at z; cases z
theorem Lot.hit_imgs {T : List (List Nat)} {n a : Nat} {lot : List Nat} (t : Tab T n) (ha : a < n) (l : Lot T n a lot) {r q : List Nat} (hr : Row T r) (h : imgs T lot r = imgs T lot q) : hitO T a r = hitO T a q := by
  rw [← l.hit t ha, ← l.hit t ha]
  have : lot.filter (turnB T r) = lot.filter (turnB T q) := List.filter_congr fun s hs => turnB_imgs l.closed hr h hs
  rw [this]
theorem imgs_nil (T : List (List Nat)) (lot : List Nat) : imgs T lot [] = lot := List.map_id' _
theorem kept_len {T : List (List Nat)} {lot : List Nat} : ∀ (rs K : List (List Nat)), (kept T lot rs K).length ≤ rs.length
  | [], K => Nat.le_refl _
  | r :: rs, K => by
    unfold kept
    split
    · have := kept_len (T := T) (lot := lot) rs K; simp; omega
    · have := kept_len (T := T) (lot := lot) rs (K ++ [r]); simp; omega
theorem pow_le {t k : Nat} (ht : t ≤ 4) (hk : k ≤ 8) : t ^ k ≤ 65536 := by
  have h1 : t ^ k ≤ 4 ^ k := Nat.pow_le_pow_left ht k
  have h2 : 4 ^ k ≤ 4 ^ 8 := Nat.pow_le_pow_right (by decide) hk
  have : 4 ^ 8 = 65536 := by decide
  omega
theorem lay_lay {T : List (List Nat)} {n a : Nat} {lot : List Nat} (t : Tab T n) (ha : a < n) (l : Lot T n a lot) {k : Nat} (hk : k ≤ 8) : Lay n (lay T lot (rowsN T k)) ∧ (lay T lot (rowsN T k)).length * T.length ≤ 900000 := by
  have t4 := t.t4
  rw [lay_kept]
  refine ⟨⟨fun p hp x hx => ?_, fun p hp => ?_, fun p hp => ?_⟩, ?_⟩
  · obtain ⟨r, hr, rfl⟩ := List.mem_map.mp hp
    obtain ⟨s, hs, rfl⟩ := List.mem_map.mp hx
    exact run_lt t (rowsN_row k r (kept_sub _ _ r hr)) (l.lt t ha s hs)
  · obtain ⟨r, hr, rfl⟩ := List.mem_map.mp hp
    show (imgs T lot r).length ≤ 8
    unfold imgs
    rw [List.length_map]; exact l.le t ha
  · obtain ⟨r, hr, rfl⟩ := List.mem_map.mp hp
    show r.length ≤ 1000
    rw [rowsN_rowlen k r (kept_sub _ _ r hr)]; omega
  · rw [List.length_map]
    have h1 := kept_len (T := T) (lot := lot) (rowsN T k) []
    rw [rowsN_len] at h1
    have h2 := pow_le t4 hk
    have : (kept T lot (rowsN T k) []).length * T.length ≤ 65536 * 4 := Nat.mul_le_mul (by omega) t4
    omega
def lensOf (T : List (List Nat)) (a loss : Nat) : List Nat := (List.range' 1 loss).filter fun k => (rowsN T k).any (hitO T a)
section
variable {C : Addr} {XX : Exn → List Sl → Prop} {R : Rv → List Sl → Prop}
theorem turning_lengths_ok {T : List (List Nat)} {n a loss : Nat} (t : Tab T n) (ha : a < n) (hl : loss ≤ 8) (h : R (.d (.tuple ((lensOf T a loss).map nD))) [.un, .un, .un]) : dc_turning_lengths C [.fz (macD C T n), .fz (nD a), .fz (nD loss)] XX R := by
  refine di_turning_lengths ?_
  unfold ds_turning_lengths
  bv_omega
  refine need_state_ok ha ?_
  bv_omega
  refine need_loss_ok hl ?_
  bv_omega
  refine reached_ok t ha fun lot nd _ hmem => ?_
  have l : Lot T n a lot := ⟨nd, hmem⟩
  bv_omega
  refine w_ofS (keys_row lot) ?_
  bv_omega
  refine ⟨⟨by decide, by decide⟩, ⟨by omega, by omega⟩, ?_⟩
  rw [show ∀ k : Nat, rangeD 1 1 k = (List.range' 1 k).map nD from fun k => rangeD1 1 k]
  have e0 : lay T lot (rowsN T 0) = [(lot, [])] := by
    show addIm [] (imgs T lot []) [] = _
    rw [imgs_nil]; rfl
  refine forL_go (I := fun ds ρ => ∃ (k m : Nat) (s4 s6 s7 : Sl), ds = (List.range' (k + 1) m).map nD ∧ k + m = loss ∧ Two s4 (.dctT (kT (lay T lot (rowsN T k)))) ∧ ρ = [.fz (macD C T n), .fz (nD a), .fz (nD loss), .fz (rowD lot), s4, .ow false (.lst ((lensOf T a k).map nD)), s6, s7]) (fun d ds ρ Kx hK hI => ?_) (fun ρ hI => ?_) ⟨0, loss, .ow false (.dctT (kT (lay T lot (rowsN T 0)))), .un, .un, by congr 2; omega, by omega, .inl rfl, by rw [e0]; rfl⟩
  · obtain ⟨k, m, s4, s6, s7, e, hkm, hs4, rfl⟩ := hI
    cases m with
    | zero => cases e
    | succ m =>
      rw [List.range'_succ] at e
      cases e
      have hk8 : k ≤ 8 := by omega
      obtain ⟨hLay, hz⟩ := lay_lay t ha l hk8
      bv_omega
      refine w_varB (i := 4) hs4 ?_
      bv_omega
      refine longer_doings_ok t hLay hz ?_
      rw [lay_ext]
      bv_omega
      have eL : lay T lot (ext T (rowsN T k)) = (kept T lot (rowsN T (k + 1)) []).map fun r => (imgs T lot r, r) := lay_kept _
      have hrow : ∀ r ∈ kept T lot (rowsN T (k + 1)) [], Row T r := fun r hr => rowsN_row (k + 1) r (kept_sub _ _ r hr)
      have hlen : (kept T lot (rowsN T (k + 1)) []).length ≤ 1000000 := by
        have h1 := kept_len (T := T) (lot := lot) (rowsN T (k + 1)) []
        rw [rowsN_len] at h1
        have h2 := pow_le t.t4 (show k + 1 ≤ 8 by omega)
        omega
      have hany : (kept T lot (rowsN T (k + 1)) []).any (hitO T a) = (rowsN T (k + 1)).any (hitO T a) := by
        rw [any_find, any_find]
        have hh : ∀ (rs K : List (List Nat)), (∀ r ∈ rs, Row T r) → (∀ r ∈ K, Row T r) → (∀ q ∈ K, hitO T a q = false) → (kept T lot rs K).find? (hitO T a) = rs.find? (hitO T a) := by
          intro rs
          induction rs with
          | nil => intro K _ _ _; rfl
          | cons r rs ih =>
            intro K h1 h2 h3
            unfold kept
            by_cases q : imgs T lot r ∈ K.map (imgs T lot)
            · rw [if_pos q]
              obtain ⟨u, hu, e⟩ := List.mem_map.mp q
              have : hitO T a r = false := by rw [← l.hit_imgs t ha (h2 u hu) e]; exact h3 u hu
              rw [List.find?_cons, this]
              exact ih K (fun x hx => h1 x (by simp [hx])) h2 h3
            · rw [if_neg q, List.find?_cons, List.find?_cons]
              cases z : hitO T a r with
              | true => rfl
              | false =>
                refine ih (K ++ [r]) (fun x hx => h1 x (by simp [hx])) (fun x hx => ?_) fun x hx => ?_
                · rcases List.mem_append.mp hx with hx | hx
                  · exact h2 x hx
                  · rw [List.mem_singleton.mp hx]; exact h1 r (by simp)
                · rcases List.mem_append.mp hx with hx | hx
                  · exact h3 x hx
                  · rw [List.mem_singleton.mp hx]; exact z
        rw [hh _ _ (rowsN_row (k + 1)) (fun r hr => by simp at hr) fun q hq => by simp at hq]
      refine w_nlk trivial ?_
      refine w_nlc ?_
      refine w_kyv (d := .dictT (kT (lay T lot (ext T (rowsN T k))))) rfl (keys_kT _) ?_
      rw [eL, List.map_map]
      refine ⟨by rw [List.length_map]; exact hlen, ?_⟩
      refine lcL_go (I := fun ds acc ρ => ∃ (A B : List (List Nat)), ds = B.map (fun r => rowD (imgs T lot r)) ∧ kept T lot (rowsN T (k + 1)) [] = A ++ B ∧ acc = (A.map (hitO T a)).map .bool ∧ ρ = [.fz (macD C T n), .fz (nD a), .fz (nD loss), .fz (rowD lot), .fz (.dictT (kT (lay T lot (rowsN T (k + 1))))), .ow false (.lst ((lensOf T a k).map nD)), .fz (nD (k + 1)), .un]) (fun d ds acc ρ Kz hKz hIz => ?_) (fun acc ρ hIz => ?_) ⟨[], kept T lot (rowsN T (k + 1)) [], rfl, rfl, rfl, by rw [← lay_kept]; rfl⟩
      · obtain ⟨A, B, e, hab, rfl, rfl⟩ := hIz
        cases B with
        | nil => cases e
        | cons r B =>
          cases e
          have hr := hrow r (by rw [hab]; simp)
          bv_omega
          refine turned_states_ok (l.run hr) l.nd (l.le t ha) ?_
          bv_omega
          rw [List.length_map]
          have := l.hit t ha r
          rw [show decide ((0 : Int) < (((lot.filter (turnB T r)).length : Nat) : Int)) = hitO T a r by rw [← this]; exact decide_eq_decide.mpr (by omega)]
          exact hKz _ _ ⟨A ++ [r], B, rfl, by rw [hab]; simp, by simp, rfl⟩
      · obtain ⟨A, B, e, hab, rfl, rfl⟩ := hIz
        cases B with
        | cons r B => cases e
        | nil =>
          have hA : A = kept T lot (rowsN T (k + 1)) [] := by rw [hab]; simp
          bv_omega
          refine w_any (asBools_map _) ?_
          bv_omega
          rw [List.any_map, show (id ∘ hitO T a) = hitO T a from rfl, hA, hany]
          have hnext : lensOf T a (k + 1) = if (rowsN T (k + 1)).any (hitO T a) = true then lensOf T a k ++ [k + 1] else lensOf T a k := by
            unfold lensOf
            rw [List.range'_1_concat, List.filter_append]
            rw [show 1 + k = k + 1 by omega]
            by_cases z : (rowsN T (k + 1)).any (hitO T a) = true
            · rw [if_pos z]; simp [List.filter_cons, z]
            · rw [if_neg z]; simp [List.filter_cons, z]
          by_cases z : (rowsN T (k + 1)).any (hitO T a) = true
          · rw [if_pos z] at hnext ⊢
            bv_omega
            refine ⟨by rw [List.length_map]; have := List.length_filter_le (fun k => (rowsN T k).any (hitO T a)) (List.range' 1 k); rw [List.length_range'] at this; unfold lensOf; omega, ?_⟩
            refine hK _ ⟨k + 1, m, .fz (.dictT (kT (lay T lot (rowsN T (k + 1))))), .fz (nD (k + 1)), fzOnly s7, rfl, by omega, .inr rfl, ?_⟩
            rw [hnext, List.map_append]
            rfl
          · rw [if_neg z] at hnext ⊢
            bv_omega
            refine hK _ ⟨k + 1, m, .fz (.dictT (kT (lay T lot (rowsN T (k + 1))))), .fz (nD (k + 1)), fzOnly s7, rfl, by omega, .inr rfl, ?_⟩
            rw [hnext]
            rfl
  · obtain ⟨k, m, s4, s6, s7, e, hkm, hs4, rfl⟩ := hI
    cases m with
    | succ m => cases e
    | zero =>
      have : k = loss := by omega
      subst this
      bv_omega
      exact h
end
end DL.K18
set_option Elab.async false
set_option linter.all false
set_option maxRecDepth 100000
set_option maxHeartbeats 4000000
namespace DL.K18
open PySem L2 Evl DL
theorem any_nD (S : List Nat) (k : Nat) : ((S.map nD).any fun z => deq z (nD k)) = decide (k ∈ S) := by
  induction S with
  | nil => rfl
  | cons s S ih =>
    rw [List.map_cons, List.any_cons, ih, show deq (nD s) (nD k) = decide ((s : Int) = (k : Int)) from deq_int _ _]
    by_cases e : s = k
    · subst e; simp
    · have e2 : ¬ k = s := fun h => e h.symm
      have e3 : ¬ (s : Int) = (k : Int) := fun h => e (by omega)
      simp [e2, e3]
theorem items_enc (L : PL) : dItems (.dict (kd (encL L))) = some (L.map fun p => .tuple [nD p.1, rowD p.2]) := by
  show some _ = some _
  congr 1
  simp [kd, encL]
  intro x b _
  show (.int (x : Int) : D) = nD x
  rfl
theorem atI_0 (d : D) (ds : List D) : atI (d :: ds) 0 = some d := by
  show (ixN (ds.length + 1) 0).bind (fun j => (d :: ds)[j]?) = some d
  rw [show ixN (ds.length + 1) 0 = some 0 by unfold ixN; simp <;> omega]
  rfl
def aheadL (S : List Nat) (L : PL) : PL := L.filter fun p => decide (p.1 ∈ S)
theorem ok_listN (S : List Nat) : D.ok 60 (.list (S.map nD)) = true := by
  show oks 59 (S.map nD) = true
  induction S with
  | nil => rfl
  | cons s S ih =>
    rw [List.map_cons]
    show (D.ok 59 (nD s) && oks 59 (S.map nD)) = true
    rw [ih, show D.ok 59 (nD s) = true from ok_int _ _]
    rfl
section
variable {C : Addr} {XX : Exn → List Sl → Prop} {R : Rv → List Sl → Prop}
theorem row_ahead_ok {T : List (List Nat)} {n a : Nat} (t : Tab T n) (ha : a < n) {S : List Nat} {p : Nat × List Nat} (hp : (aheadL S (comeL T a))[0]? = some p) (h : R (.d (rowD p.2)) [.un, .un, .un]) : dc_row_ahead C [.fz (macD C T n), .fz (nD a), .fz (.list (S.map nD))] XX R := by
  refine di_row_ahead ?_
  unfold ds_row_ahead
  bv_omega
  refine w_nlc ?_
  bv_omega
  refine first_rows_ok t ha ?_
  bv_omega
  refine w_ofS (items_enc _) ?_
  refine ⟨by rw [List.length_map]; have h1 : (comeL T a).length ≤ n := (Come.at t ha 8).le; have := t.n8; omega, ?_⟩
  refine lcL_go (I := fun ds acc ρ => ∃ (A B : PL), ds = B.map (fun p => .tuple [nD p.1, rowD p.2]) ∧ comeL T a = A ++ B ∧ acc = (aheadL S A).map (fun p => rowD p.2) ∧ ρ = [.fz (macD C T n), .fz (nD a), .fz (.list (S.map nD)), .un, .un]) (fun d ds acc ρ Kz hKz hIz => ?_) (fun acc ρ hIz => ?_) ⟨[], comeL T a, rfl, rfl, rfl, rfl⟩
  · obtain ⟨A, B, e, hab, rfl, rfl⟩ := hIz
    cases B with
    | nil => cases e
    | cons r B =>
      cases e
      bv_omega
      refine w_inL ⟨ok_int _ _, ok_listN S⟩ ?_
      bv_omega
      rw [any_nD]
      by_cases z : r.1 ∈ S
      · rw [decide_eq_true z]
        bv_omega
        exact hKz _ _ ⟨A ++ [r], B, rfl, by rw [hab]; simp, by simp [aheadL, List.filter_append, List.filter_cons, z], rfl⟩
      · rw [decide_eq_false z]
        bv_omega
        exact hKz _ _ ⟨A ++ [r], B, rfl, by rw [hab]; simp, by simp [aheadL, List.filter_append, List.filter_cons, z], rfl⟩
  · obtain ⟨A, B, e, hab, rfl, rfl⟩ := hIz
    cases B with
    | cons r B => cases e
    | nil =>
      have hA : A = comeL T a := by rw [hab]; simp
      subst hA
      bv_omega
      have hx : atI ((aheadL S (comeL T a)).map fun p => rowD p.2) 0 = some (rowD p.2) := by
        generalize aheadL S (comeL T a) = Q at hp ⊢
        cases Q with
        | nil => cases hp
        | cons q Q => cases hp; exact atI_0 _ _
      refine w_ixL hx ?_
      bv_omega
      exact h
end
end DL.K18
set_option Elab.async false
set_option linter.all false
set_option maxRecDepth 100000
set_option maxHeartbeats 4000000
namespace DL.K18
open PySem L2 Evl DL
theorem kept_findR {T : List (List Nat)} {n a : Nat} {lot : List Nat} (t : Tab T n) (ha : a < n) (l : Lot T n a lot) : ∀ (rs K : List (List Nat)), (∀ r ∈ rs, Row T r) → (∀ r ∈ K, Row T r) → (∀ q ∈ K, hitO T a q = false) → (kept T lot rs K).find? (hitO T a) = rs.find? (hitO T a) := by
  intro rs
  induction rs with
  | nil => intro K _ _ _; rfl
  | cons r rs ih =>
    intro K h1 h2 h3
    unfold kept
    by_cases q : imgs T lot r ∈ K.map (imgs T lot)
    · rw [if_pos q]
      obtain ⟨u, hu, e⟩ := List.mem_map.mp q
      have : hitO T a r = false := by rw [← l.hit_imgs t ha (h2 u hu) e]; exact h3 u hu
      rw [List.find?_cons, this]
      exact ih K (fun x hx => h1 x (by simp [hx])) h2 h3
    · rw [if_neg q, List.find?_cons, List.find?_cons]
      cases z : hitO T a r with
      | true => rfl
      | false =>
        refine ih (K ++ [r]) (fun x hx => h1 x (by simp [hx])) (fun x hx => ?_) fun x hx => ?_
        · rcases List.mem_append.mp hx with hx | hx
          · exact h2 x hx
          · rw [List.mem_singleton.mp hx]; exact h1 r (by simp)
        · rcases List.mem_append.mp hx with hx | hx
          · exact h3 x hx
          · rw [List.mem_singleton.mp hx]; exact z
/-- the first row of a fitting length that goes round -/
def paperO (T : List (List Nat)) (a m : Nat) : List Nat → Option (List Nat)
  | [] => none
  | k :: ks => if k % m = 0 then match (rowsN T k).find? (hitO T a) with
    | some r => some r
    | none => paperO T a m ks else paperO T a m ks
/-- the row ahead of it -/
def aheadO (T : List (List Nat)) (a : Nat) (r : List Nat) : List Nat := (((comeL T a).find? fun p => turnB T r p.1).map (·.2)).getD []
def paperD (T : List (List Nat)) (a : Nat) : Option (List Nat) → D
  | none => .none
  | some r => .tuple [.str "turn", rowD (aheadO T a r), rowD r]
theorem ahead_first {T : List (List Nat)} {n a : Nat} {lot : List Nat} (t : Tab T n) (ha : a < n) (l : Lot T n a lot) {r : List Nat} (h : hitO T a r = true) : ∃ p, (aheadL (lot.filter (turnB T r)) (comeL T a))[0]? = some p ∧ p.2 = aheadO T a r := by
  have e : aheadL (lot.filter (turnB T r)) (comeL T a) = (comeL T a).filter fun p => turnB T r p.1 := by
    unfold aheadL
    refine List.filter_congr fun p hp => ?_
    have hm : p.1 ∈ lot := (l.mem _).mpr ((come_rch t ha _).mp (mem_keys hp))
    cases z : turnB T r p.1 with
    | true => exact decide_eq_true (List.mem_filter.mpr ⟨hm, z⟩)
    | false => exact decide_eq_false fun q => by rw [(List.mem_filter.mp q).2] at z; cases z
  have hf : ((comeL T a).filter fun p => turnB T r p.1)[0]? = (comeL T a).find? fun p => turnB T r p.1 := by
    rw [← List.head?_filter, List.head?_eq_getElem?]
  rw [e, hf]
  unfold aheadO
  cases z : (comeL T a).find? fun p => turnB T r p.1 with
  | some p => exact ⟨p, rfl, rfl⟩
  | none =>
    unfold hitO at h
    obtain ⟨s, hs, hb⟩ := List.any_eq_true.mp h
    obtain ⟨p, hp, rfl⟩ := List.mem_map.mp hs
    have := List.find?_eq_none.mp z p hp
    exact absurd hb this
section
variable {C : Addr} {XX : Exn → List Sl → Prop} {R : Rv → List Sl → Prop}
theorem turn_paper_ok {T : List (List Nat)} {n a loss m : Nat} (t : Tab T n) (ha : a < n) (hl : loss ≤ 8) (h1 : 1 ≤ m) (h9 : m ≤ 9) (h : R (.d (paperD T a (paperO T a m (List.range' 1 loss)))) [.un, .un, .un, .un]) : dc_turn_paper C [.fz (macD C T n), .fz (nD a), .fz (nD loss), .fz (nD m)] XX R := by
  refine di_turn_paper ?_
  unfold ds_turn_paper
  bv_omega
  refine need_turning_ok ha hl h1 h9 ?_
  bv_omega
  refine reached_ok t ha fun lot nd _ hmem => ?_
  have l : Lot T n a lot := ⟨nd, hmem⟩
  bv_omega
  refine w_ofS (keys_row lot) ?_
  bv_omega
  refine ⟨⟨by decide, by decide⟩, ⟨by omega, by omega⟩, ?_⟩
  rw [show ∀ k : Nat, rangeD 1 1 k = (List.range' 1 k).map nD from fun k => rangeD1 1 k]
  have e0 : lay T lot (rowsN T 0) = [(lot, [])] := by
    show addIm [] (imgs T lot []) [] = _
    rw [imgs_nil]; rfl
  refine forL_go (I := fun ds ρ => ∃ (k j : Nat) (s5 s6 s7 s8 s9 : Sl), ds = (List.range' (k + 1) j).map nD ∧ k + j = loss ∧ Two s5 (.dctT (kT (lay T lot (rowsN T k)))) ∧ paperO T a m (List.range' (k + 1) j) = paperO T a m (List.range' 1 loss) ∧ ρ = [.fz (macD C T n), .fz (nD a), .fz (nD loss), .fz (nD m), .fz (rowD lot), s5, s6, s7, s8, s9]) (fun d ds ρ Kx hK hI => ?_) (fun ρ hI => ?_) ⟨0, loss, .ow false (.dctT (kT (lay T lot (rowsN T 0)))), .un, .un, .un, .un, by congr 2; omega, by omega, .inl rfl, rfl, by rw [e0]; rfl⟩
  · obtain ⟨k, j, s5, s6, s7, s8, s9, e, hkm, hs5, hpap, rfl⟩ := hI
    cases j with
    | zero => cases e
    | succ j =>
      rw [List.range'_succ] at e hpap
      cases e
      have hk8 : k ≤ 8 := by omega
      obtain ⟨hLay, hz⟩ := lay_lay t ha l hk8
      bv_omega
      refine w_varB (i := 5) hs5 ?_
      bv_omega
      refine longer_doings_ok t hLay hz ?_
      rw [lay_ext]
      bv_omega
      have eL : lay T lot (ext T (rowsN T k)) = (kept T lot (rowsN T (k + 1)) []).map fun r => (imgs T lot r, r) := lay_kept _
      have hrow : ∀ r ∈ kept T lot (rowsN T (k + 1)) [], Row T r := fun r hr => rowsN_row (k + 1) r (kept_sub _ _ r hr)
      have hfind : (kept T lot (rowsN T (k + 1)) []).find? (hitO T a) = (rowsN T (k + 1)).find? (hitO T a) := kept_findR t ha l _ _ (rowsN_row (k + 1)) (fun r hr => by simp at hr) fun q hq => by simp at hq
      refine w_dII (by omega) ?_
      bv_omega
      by_cases q : (k + 1) % m = 0
      · have q1 : ((k + 1 : Nat) : Int) % (m : Int) = 0 := by omega
        rw [decide_eq_true q1]
        have hp2 : (match (rowsN T (k + 1)).find? (hitO T a) with
          | some r => some r
          | none => paperO T a m (List.range' (k + 1 + 1) j)) = paperO T a m (List.range' 1 loss) := by
          rw [← hpap]; conv => rhs; unfold paperO
          rw [if_pos q]
        bv_omega
        refine w_lk trivial ?_
        bv_omega
        refine w_itv (d := .dictT (kT (lay T lot (ext T (rowsN T k))))) rfl (items_kT _) ?_
        rw [eL, List.map_map]
        refine forL_go (I := fun ds ρ => ∃ (A B : List (List Nat)) (s7 s8 s9 : Sl), ds = B.map (fun r => .tuple [rowD (imgs T lot r), rowD r]) ∧ kept T lot (rowsN T (k + 1)) [] = A ++ B ∧ A.find? (hitO T a) = none ∧ ρ = [.fz (macD C T n), .fz (nD a), .fz (nD loss), .fz (nD m), .fz (rowD lot), .fz (.dictT (kT (lay T lot (rowsN T (k + 1))))), .fz (nD (k + 1)), s7, s8, s9]) (fun d ds ρ Ky hKy hJ => ?_) (fun ρ hJ => ?_) ⟨[], kept T lot (rowsN T (k + 1)) [], s7, s8, s9, rfl, rfl, rfl, by rw [← lay_kept]; rfl⟩
        · obtain ⟨A, B, s7, s8, s9, e, hab, hA, rfl⟩ := hJ
          cases B with
          | nil => cases e
          | cons r B =>
            cases e
            have hr := hrow r (by rw [hab]; simp)
            bv_omega
            refine turned_states_ok (l.run hr) l.nd (l.le t ha) ?_
            bv_omega
            rw [List.length_map]
            have := l.hit t ha r
            rw [show decide ((0 : Int) < (((lot.filter (turnB T r)).length : Nat) : Int)) = hitO T a r by rw [← this]; exact decide_eq_decide.mpr (by omega)]
            by_cases z : hitO T a r = true
            · rw [z]
              obtain ⟨p, hp, hp2'⟩ := ahead_first t ha l z
              have hfr : (rowsN T (k + 1)).find? (hitO T a) = some r := by
                rw [← hfind, hab, List.find?_append, hA, List.find?_cons, z]; rfl
              rw [hfr] at hp2
              bv_omega
              refine row_ahead_ok t ha hp ?_
              bv_omega
              rw [hp2']
              rw [← hp2] at h
              exact h
            · rw [Bool.not_eq_true] at z
              rw [z]
              bv_omega
              refine hKy _ ⟨A ++ [r], B, _, _, _, rfl, by rw [hab]; simp, by rw [List.find?_append, hA, List.find?_cons, z]; rfl, rfl⟩
        · obtain ⟨A, B, s7, s8, s9, e, hab, hA, rfl⟩ := hJ
          cases B with
          | cons r B => cases e
          | nil =>
            have hfr : (rowsN T (k + 1)).find? (hitO T a) = none := by
              rw [← hfind, hab, List.append_nil, hA]
            rw [hfr] at hp2
            refine hK _ ⟨k + 1, j, .fz (.dictT (kT (lay T lot (rowsN T (k + 1))))), .fz (nD (k + 1)), s7, s8, s9, rfl, by omega, .inr rfl, hp2, rfl⟩
      · have q1 : ¬ ((k + 1 : Nat) : Int) % (m : Int) = 0 := by omega
        rw [decide_eq_false q1]
        have hp2 : paperO T a m (List.range' (k + 1 + 1) j) = paperO T a m (List.range' 1 loss) := by
          rw [← hpap]; conv => rhs; unfold paperO
          rw [if_neg q]
        bv_omega
        refine hK _ ⟨k + 1, j, .fz (.dictT (kT (lay T lot (rowsN T (k + 1))))), .fz (nD (k + 1)), s7, s8, s9, rfl, by omega, .inr rfl, hp2, rfl⟩
  · obtain ⟨k, j, s5, s6, s7, s8, s9, e, hkm, hs5, hpap, rfl⟩ := hI
    cases j with
    | succ j => cases e
    | zero =>
      rw [← hpap] at h
      bv_omega
      exact h
end
end DL.K18
set_option Elab.async false
set_option linter.all false
set_option maxRecDepth 100000
set_option maxHeartbeats 4000000
namespace DL.K18
open PySem L2 Evl DL
theorem atI_1 (c d : D) (ds : List D) : atI (c :: d :: ds) 1 = some d := by
  show (ixN (ds.length + 1 + 1) 1).bind (fun j => (c :: d :: ds)[j]?) = some d
  rw [show ixN (ds.length + 1 + 1) 1 = some 1 by unfold ixN; simp <;> omega]
  rfl
theorem atI_2 (b c d : D) (ds : List D) : atI (b :: c :: d :: ds) 2 = some d := by
  show (ixN (ds.length + 1 + 1 + 1) 2).bind (fun j => (b :: c :: d :: ds)[j]?) = some d
  rw [show ixN (ds.length + 1 + 1 + 1) 2 = some 2 by unfold ixN; simp <;> omega]
  rfl
section
variable {C : Addr} {XX : Exn → List Sl → Prop} {R : Rv → List Sl → Prop}
end
end DL.K18
set_option Elab.async false
set_option linter.all false
set_option maxRecDepth 100000
set_option maxHeartbeats 4000000
namespace DL.K18
open PySem L2 Evl DL
theorem paperO_some {T : List (List Nat)} {a m : Nat} {r : List Nat} : ∀ {ks : List Nat}, paperO T a m ks = some r → ∃ k ∈ ks, k % m = 0 ∧ r ∈ rowsN T k ∧ hitO T a r = true
  | [], h => by cases h
  | k :: ks, h => by
    unfold paperO at h
    by_cases q : k % m = 0
    · rw [if_pos q] at h
      cases z : (rowsN T k).find? (hitO T a) with
      | some u =>
        rw [z] at h
        cases h
        exact ⟨k, by simp, q, List.mem_of_find?_eq_some z, List.find?_some z⟩
      | none =>
        rw [z] at h
        obtain ⟨j, h1, h2⟩ := paperO_some h
        exact ⟨j, by simp [h1], h2⟩
    · rw [if_neg q] at h
      obtain ⟨j, h1, h2⟩ := paperO_some h
      exact ⟨j, by simp [h1], h2⟩
theorem aheadO_mem {T : List (List Nat)} {n a : Nat} (t : Tab T n) (ha : a < n) {r : List Nat} (h : hitO T a r = true) : ∃ p ∈ comeL T a, turnB T r p.1 = true ∧ p.2 = aheadO T a r := by
  unfold aheadO
  cases z : (comeL T a).find? fun p => turnB T r p.1 with
  | some p => exact ⟨p, List.mem_of_find?_eq_some z, List.find?_some (p := fun p : Nat × List Nat => turnB T r p.1) z, rfl⟩
  | none =>
    unfold hitO at h
    obtain ⟨s, hs, hb⟩ := List.any_eq_true.mp h
    obtain ⟨p, hp, rfl⟩ := List.mem_map.mp hs
    exact absurd hb (List.find?_eq_none.mp z p hp)
/-- how often the row is taken -/
def oft (len k : Nat) : Nat := (-(-(len : Int) / (k : Int))).toNat
theorem oft_le {len k : Nat} (hl : len ≤ 12) (h1 : 1 ≤ k) (h8 : k ≤ 8) : -1000 ≤ -(-(len : Int) / (k : Int)) ∧ -(-(len : Int) / (k : Int)) ≤ 12 := by
  have : k = 1 ∨ k = 2 ∨ k = 3 ∨ k = 4 ∨ k = 5 ∨ k = 6 ∨ k = 7 ∨ k = 8 := by omega
  rcases this with h | h | h | h | h | h | h | h <;> subst h <;> omega
def oneO (T : List (List Nat)) (a len : Nat) (r : List Nat) : List Nat := aheadO T a r ++ (List.replicate (oft len r.length) r).flatten
def rowsD (T : List (List Nat)) (a len : Nat) : Option (List Nat) → D
  | none => .none
  | some r => .tuple [rowD (oneO T a len r), rowD (oneO T a len r ++ r)]
theorem rep_map (k : Nat) (r : List Nat) : (List.replicate k (r.map nD)).flatten = ((List.replicate k r).flatten).map nD := by
  rw [List.map_flatten, List.map_replicate]
theorem rep_len (k : Nat) (r : List Nat) : ((List.replicate k r).flatten).length = k * r.length := by
  simp
section
variable {C : Addr} {XX : Exn → List Sl → Prop} {R : Rv → List Sl → Prop}
theorem turned_rows_ok {T : List (List Nat)} {n a loss m len : Nat} (t : Tab T n) (ha : a < n) (hl : loss ≤ 8) (h1 : 1 ≤ m) (h9 : m ≤ 9) (hlen : len ≤ 12) (h : R (.d (rowsD T a len (paperO T a m (List.range' 1 loss)))) [.un, .un, .un, .un, .un]) : dc_turned_rows C [.fz (macD C T n), .fz (nD a), .fz (nD len), .fz (nD loss), .fz (nD m)] XX R := by
  refine di_turned_rows ?_
  unfold ds_turned_rows
  bv_omega
  refine need_state_ok ha ?_
  bv_omega
  refine is_within_ok ?_
  rw [decide_eq_true (show (0 : Int) ≤ (len : Int) by omega), decide_eq_true (show (len : Int) ≤ 12 by omega), Bool.and_true]
  bv_omega
  refine turn_paper_ok t ha hl h1 h9 ?_
  cases z : paperO T a m (List.range' 1 loss) with
  | none =>
    rw [z] at h
    bv_omega
    exact h
  | some r =>
    rw [z] at h
    obtain ⟨k, hk, hkm, hrk, hh⟩ := paperO_some z
    have hk1 := List.mem_range'_1.mp hk
    have hrl := rowsN_rowlen k r hrk
    obtain ⟨p, hp, _, hp2⟩ := aheadO_mem t ha hh
    have hpl : (aheadO T a r).length ≤ 1000 := by
      rw [← hp2]
      have c := Come.at t ha 8
      have e1 := c.len p hp
      have e2 := c.le
      have e3 := t.n8
      omega
    have hof := oft_le (len := len) (k := r.length) hlen (by omega) (by omega)
    have hofn : oft len r.length ≤ 12 := by unfold oft; omega
    bv_omega
    refine w_ixT (atI_1 _ _ _) ?_
    bv_omega
    refine w_ixT (atI_2 _ _ _ _) ?_
    bv_omega
    refine ⟨rfl, ?_⟩
    bv_omega
    rw [List.length_map]
    refine w_dII ⟨by omega, by omega⟩ ?_
    bv_omega
    refine w_mulT ⟨hof.1, by omega, by rw [List.length_map]; omega⟩ ?_
    rw [rep_map]
    have hfl : ((List.replicate (oft len r.length) r).flatten).length ≤ 12 * 8 := by
      rw [rep_len]; exact Nat.mul_le_mul hofn (by omega)
    refine w_addT (big (by rw [List.length_map, List.length_map]; show _ + ((List.replicate (oft len r.length) r).flatten).length ≤ _; omega)) ?_
    rw [← List.map_append]
    bv_omega
    refine w_addT (big (by rw [List.length_map, List.length_map, List.length_append]; show _ + ((List.replicate (oft len r.length) r).flatten).length + _ ≤ _; omega)) ?_
    rw [← List.map_append]
    bv_omega
    exact h
end
end DL.K18
set_option Elab.async false
set_option linter.all false
set_option maxRecDepth 100000
set_option maxHeartbeats 4000000
namespace DL.K18
open PySem L2 Evl DL
def goodB (L : List Nat) (m : Nat) : Bool := L.all fun k => !decide (k % m = 0)
def goodL (L : List Nat) : List Nat := (List.range' 1 9).filter (goodB L)
def modF (m : Nat) : D → D
  | .int i => .bool (!decide (i % (m : Int) = 0))
  | _ => .none
theorem modF_map (m : Nat) (L : List Nat) : (L.map nD).map (modF m) = (L.map fun k => !decide (k % m = 0)).map .bool := by
  rw [List.map_map, List.map_map]
  refine List.map_congr_left fun k _ => ?_
  show D.bool (!decide ((k : Int) % (m : Int) = 0)) = D.bool (!decide (k % m = 0))
  congr 2
  exact decide_eq_decide.mpr (by omega)
theorem lensOf_lt {T : List (List Nat)} {a loss k : Nat} (h : k ∈ lensOf T a loss) : 1 ≤ k ∧ k ≤ loss := by
  have := List.mem_range'_1.mp (List.mem_filter.mp h).1
  omega
theorem good_nine {L : List Nat} (h : ∀ k ∈ L, 1 ≤ k ∧ k ≤ 8) : 9 ∈ goodL L := by
  refine List.mem_filter.mpr ⟨by decide, List.all_eq_true.mpr fun k hk => ?_⟩
  have := h k hk
  rw [decide_eq_false (by omega)]
  rfl
def leastO (L : List Nat) : Nat := (goodL L)[0]?.getD 0
theorem least_some {L : List Nat} (h : ∀ k ∈ L, 1 ≤ k ∧ k ≤ 8) : (goodL L)[0]? = some (leastO L) := by
  unfold leastO
  have := good_nine h
  cases z : goodL L with
  | nil => rw [z] at this; cases this
  | cons x xs => rfl
section
variable {C : Addr} {XX : Exn → List Sl → Prop} {R : Rv → List Sl → Prop}
theorem good_moduli_ok {T : List (List Nat)} {n a loss : Nat} (t : Tab T n) (ha : a < n) (hl : loss ≤ 8) (h : R (.d (.tuple ((goodL (lensOf T a loss)).map nD))) [.un, .un, .un]) : dc_good_moduli C [.fz (macD C T n), .fz (nD a), .fz (nD loss)] XX R := by
  have hlen : (lensOf T a loss).length ≤ 8 := by
    have := List.length_filter_le (fun k => (rowsN T k).any (hitO T a)) (List.range' 1 loss)
    rw [List.length_range'] at this
    unfold lensOf; omega
  refine di_good_moduli ?_
  unfold ds_good_moduli
  bv_omega
  refine turning_lengths_ok t ha hl ?_
  bv_omega
  refine w_nlc ?_
  bv_omega
  refine ⟨⟨by decide, by decide⟩, ⟨by decide, by decide⟩, ?_⟩
  rw [show rangeD 1 1 ((9 : Int) + 1 - 1).toNat = (List.range' 1 9).map nD from rangeD1 1 9]
  refine ⟨by decide, ?_⟩
  refine lcL_go (I := fun ds acc ρ => ∃ (A B : List Nat), ds = B.map nD ∧ List.range' 1 9 = A ++ B ∧ acc = (A.filter (goodB (lensOf T a loss))).map nD ∧ ρ = [.fz (macD C T n), .fz (nD a), .fz (nD loss), .fz (.tuple ((lensOf T a loss).map nD)), .un, .un]) (fun d ds acc ρ Kz hKz hIz => ?_) (fun acc ρ hIz => ?_) ⟨[], List.range' 1 9, rfl, rfl, rfl, rfl⟩
  · obtain ⟨A, B, e, hab, rfl, rfl⟩ := hIz
    cases B with
    | nil => cases e
    | cons m B =>
      cases e
      have hm : 1 ≤ m ∧ m < 1 + 9 := List.mem_range'_1.mp (by rw [hab]; simp)
      bv_omega
      refine w_nlc ?_
      bv_omega
      refine ⟨by rw [List.length_map]; omega, ?_⟩
      refine lcL_map (modF m) (fun d hd K hK => ?_) ?_
      · obtain ⟨x, hx, rfl⟩ := List.mem_map.mp hd
        bv_omega
        refine w_dII (by omega) ?_
        bv_omega
        exact hK _ rfl
      · rw [List.nil_append, modF_map]
        bv_omega
        refine w_all (asBools_map _) ?_
        bv_omega
        rw [List.all_map, show (List.all (lensOf T a loss) (id ∘ fun k => !decide (k % m = 0))) = goodB (lensOf T a loss) m from rfl]
        by_cases z : goodB (lensOf T a loss) m = true
        · rw [z]
          bv_omega
          exact hKz _ _ ⟨A ++ [m], B, rfl, by rw [hab]; simp, by simp [List.filter_append, List.filter_cons, z], rfl⟩
        · rw [Bool.not_eq_true] at z
          rw [z]
          bv_omega
          exact hKz _ _ ⟨A ++ [m], B, rfl, by rw [hab]; simp, by simp [List.filter_append, List.filter_cons, z], rfl⟩
  · obtain ⟨A, B, e, hab, rfl, rfl⟩ := hIz
    cases B with
    | cons r B => cases e
    | nil =>
      have hA : A = List.range' 1 9 := by rw [hab]; simp
      subst hA
      bv_omega
      exact h
end
end DL.K18
set_option Elab.async false
set_option linter.all false
set_option maxRecDepth 100000
set_option maxHeartbeats 4000000
namespace DL.K18
open PySem L2 Evl DL
theorem ext_app {T : List (List Nat)} : ∀ A B : List (List Nat), ext T (A ++ B) = ext T A ++ ext T B
  | [], B => rfl
  | r :: A, B => by
    show blockR T r ++ ext T (A ++ B) = (blockR T r ++ ext T A) ++ ext T B
    rw [ext_app A B, List.append_assoc]
theorem ext_one {T : List (List Nat)} (r : List Nat) : ext T [r] = blockR T r := by
  show blockR T r ++ [] = _
  rw [List.append_nil]
theorem rows_small {T : List (List Nat)} {n k : Nat} (t : Tab T n) (hk : k ≤ 8) : (rowsN T k).length ≤ 65536 := by
  rw [rowsN_len]; exact pow_le t.t4 hk
theorem deq_list_nil (xs : List D) : deq (.list xs) (.list []) = xs.isEmpty := by
  cases xs with
  | nil => unfold deq D.py PyData.eqv; rfl
  | cons x xs => unfold deq D.py PyData.eqv; rfl
theorem oks_all {m : Nat} : ∀ {xs : List D}, (∀ x ∈ xs, D.ok m x = true) → oks m xs = true
  | [], _ => rfl
  | x :: xs, h => by
    show (D.ok m x && oks m xs) = true
    rw [h x (by simp), oks_all fun y hy => h y (by simp [hy])]
    rfl
theorem ok_row (m : Nat) (r : List Nat) : D.ok (m + 1) (rowD r) = true := by
  show oks m (r.map nD) = true
  refine oks_all fun x hx => ?_
  obtain ⟨k, _, rfl⟩ := List.mem_map.mp hx
  exact ok_int _ _
theorem ok_rows (m : Nat) (rs : List (List Nat)) : D.ok (m + 2) (.list (rs.map rowD)) = true := by
  show oks (m + 1) (rs.map rowD) = true
  refine oks_all fun x hx => ?_
  obtain ⟨k, _, rfl⟩ := List.mem_map.mp hx
  exact ok_row _ _
theorem blk_map (T : List (List Nat)) (r : List Nat) : ((List.range' 0 T.length).map nD).map (fun d => D.tuple (r.map nD ++ [d])) = (blockR T r).map rowD := by
  unfold blockR
  rw [List.map_map, List.map_map, List.range_eq_range']
  refine List.map_congr_left fun k _ => ?_
  show D.tuple (r.map nD ++ [nD k]) = D.tuple ((r ++ [k]).map nD)
  rw [List.map_append]; rfl
theorem empt_map {α : Type} (g : α → D) (xs : List α) : (xs.map g).isEmpty = xs.isEmpty := by cases xs <;> rfl
theorem empt_filter {α : Type} (p : α → Bool) : ∀ xs : List α, (!(xs.filter p).isEmpty) = xs.any p
  | [] => rfl
  | x :: xs => by
    cases z : p x with
    | true => simp [List.filter_cons, z]
    | false =>
      rw [List.filter_cons, z, List.any_cons, z, Bool.false_or]
      exact empt_filter p xs
/-- the states that a row leads round, in the order of their coming -/
def turnL (T : List (List Nat)) (a : Nat) (r : List Nat) : List Nat := (keysL (comeL T a)).filter (turnB T r)
theorem turnL_hit {T : List (List Nat)} {a : Nat} {r : List Nat} : (turnL T a r = []) ↔ hitO T a r = false := by
  unfold turnL hitO
  rw [List.filter_eq_nil_iff, List.any_eq_false]
/-- what is told is held -/
theorem paper_hold {T : List (List Nat)} {n a loss m : Nat} {r : List Nat} (t : Tab T n) (ha : a < n) (h : paperO T a m (List.range' 1 loss) = some r) : Row T (aheadO T a r) ∧ (aheadO T a r).length ≤ 8 ∧ Row T r ∧ r.length ≤ loss ∧ r.length % m = 0 ∧ 1 < rnd T (run T a (aheadO T a r)) r n := by
  obtain ⟨k, hk, hkm, hrk, hh⟩ := paperO_some h
  have hk1 := List.mem_range'_1.mp hk
  have hrl := rowsN_rowlen k r hrk
  have hrow : Row T r := rowsN_row k r hrk
  obtain ⟨p, hp, hb, hp2⟩ := aheadO_mem t ha hh
  have c := Come.at t ha 8
  have l : Lot T n a (keysL (comeL T a)) := ⟨c.nd, come_rch t ha⟩
  have hle : (keysL (comeL T a)).length ≤ n := nodup_le l.nd (l.lt t ha)
  have h8 : (keysL (comeL T a)).length ≤ 8 := Nat.le_trans hle t.n8
  have e1 := c.len p hp
  have e2 := c.le
  have e3 := t.n8
  refine ⟨by rw [← hp2]; exact c.row p hp, by rw [← hp2]; omega, hrow, by omega, by rw [hrl]; exact hkm, ?_⟩
  rw [← hp2, c.run p hp]
  have hb' : 1 < rnd T p.1 r 8 := of_decide_eq_true hb
  exact (rnd_circ (l.run hrow) (mem_keys hp) c.nd hle).mpr ((rnd_circ (l.run hrow) (mem_keys hp) c.nd h8).mp hb')

/-! ### ends of rows -/
def lastN (L : Nat) (w : List Nat) : List Nat := w.drop (w.length - L)
theorem lastN_len (L : Nat) (w : List Nat) : (lastN L w).length = min L w.length := by
  unfold lastN; rw [List.length_drop]; omega
theorem lastN_all {L : Nat} {w : List Nat} (h : w.length ≤ L) : lastN L w = w := by
  unfold lastN; rw [show w.length - L = 0 by omega, List.drop_zero]
theorem lastN_app {L : Nat} (z : List Nat) {y : List Nat} (h : L ≤ y.length) : lastN L (z ++ y) = lastN L y := by
  unfold lastN
  rw [List.length_append, List.drop_append, List.drop_eq_nil_of_le (by omega), List.nil_append]
  congr 1; omega
theorem split_last (L : Nat) (w : List Nat) : w = w.take (w.length - L) ++ lastN L w := (List.take_append_drop _ _).symm
theorem lastN_two (L : Nat) (w u : List Nat) : lastN L (lastN L w ++ u) = lastN L (w ++ u) := by
  by_cases q : L ≤ w.length
  · have e : w ++ u = w.take (w.length - L) ++ (lastN L w ++ u) := by rw [← List.append_assoc, ← split_last]
    rw [e]
    exact (lastN_app _ (by rw [List.length_append, lastN_len]; omega)).symm
  · rw [lastN_all (w := w) (by omega)]
theorem lastN_lastN {k L : Nat} (h : k ≤ L) (w : List Nat) : lastN k (lastN L w) = lastN k w := by
  unfold lastN
  rw [List.drop_drop, List.length_drop]
  congr 1; omega
theorem lastN_end {k : Nat} (z : List Nat) {y : List Nat} (h : y.length = k) : lastN k (z ++ y) = y := by
  rw [lastN_app z (by omega), lastN_all (by omega)]
theorem run_two {T : List (List Nat)} : ∀ (u : List Nat) {s : Nat} {v : List Nat}, run T s (u ++ v) = run T (run T s u) v := fun u s v => by
  unfold run; rw [List.foldl_append]
theorem run_rep {T : List (List Nat)} {r : List Nat} : ∀ (k s : Nat), run T s (List.replicate k r).flatten = it T r k s
  | 0, s => rfl
  | k + 1, s => by
    rw [List.replicate_succ', List.flatten_append, run_two, run_rep k s]
    simp [it]
theorem Row.app {T : List (List Nat)} {u v : List Nat} (hu : Row T u) (hv : Row T v) : Row T (u ++ v) := fun x hx => by
  rcases List.mem_append.mp hx with h | h
  · exact hu x h
  · exact hv x h
theorem Row.left {T : List (List Nat)} {u v : List Nat} (h : Row T (u ++ v)) : Row T u := fun x hx => h x (List.mem_append_left _ hx)
theorem Row.right {T : List (List Nat)} {u v : List Nat} (h : Row T (u ++ v)) : Row T v := fun x hx => h x (List.mem_append_right _ hx)
theorem Row.rep {T : List (List Nat)} {r : List Nat} (h : Row T r) (k : Nat) : Row T (List.replicate k r).flatten := fun x hx => by
  obtain ⟨u, hu, hxu⟩ := List.mem_flatten.mp hx
  rw [(List.mem_replicate.mp hu).2] at hxu
  exact h x hxu
theorem rows_mem {T : List (List Nat)} {r : List Nat} (h : Row T r) : r ∈ rowsN T r.length := by
  have : ∀ k (r : List Nat), r.length = k → Row T r → r ∈ rowsN T k := by
    intro k
    induction k with
    | zero => intro r hl _; rw [List.eq_nil_of_length_eq_zero hl]; exact List.mem_singleton.mpr rfl
    | succ k ih =>
      intro r hl hr
      have hne : r ≠ [] := fun z => by rw [z] at hl; cases hl
      have e := List.dropLast_concat_getLast hne
      have hd : r.dropLast ∈ rowsN T k := ih _ (by rw [List.length_dropLast]; omega) fun x hx => hr x (List.dropLast_subset r hx)
      have hx : r.getLast hne < T.length := hr _ (List.getLast_mem hne)
      show r ∈ ext T (rowsN T k)
      rw [← e]
      obtain ⟨A, B, hab⟩ := List.append_of_mem hd
      rw [hab, ext_app]
      exact List.mem_append_right _ (List.mem_append_left _ (List.mem_map.mpr ⟨_, List.mem_range.mpr hx, rfl⟩))
  exact this _ r rfl h
theorem subset_len {α : Type} [DecidableEq α] : ∀ {A B : List α}, A.Nodup → (∀ x ∈ A, x ∈ B) → A.length ≤ B.length
  | [], B, _, _ => by simp
  | x :: A, B, hA, hB => by
    have hn := List.nodup_cons.mp hA
    have h1 := subset_len (A := A) (B := B.erase x) hn.2 fun y hy => (List.mem_erase_of_ne (fun z => hn.1 (by rw [← z]; exact hy))).mpr (hB y (by simp [hy]))
    have h2 := List.length_erase (a := x) (l := B)
    rw [if_pos (hB x (by simp))] at h2
    have h3 : 0 < B.length := List.length_pos_of_mem (hB x (by simp))
    simp; omega
/-! ### links that are right -/
def Right (T : List (List Nat)) (a L loss m : Nat) : Prop := ∀ w u v, Row T w → Row T u → Row T v → u.length ≤ loss → v.length ≤ loss → lastN L (w ++ u) = lastN L (w ++ v) → (w.length + u.length) % m = (w.length + v.length) % m → run T a (w ++ u) = run T a (w ++ v)
theorem pow_pre {X Y Z : List Nat} (h : X = Z ++ Y) (hp : Y <+: X) : ∀ k, k * Z.length ≤ X.length → X.take (k * Z.length) = (List.replicate k Z).flatten
  | 0, _ => by simp
  | k + 1, hk => by
    have hl : X.length = Z.length + Y.length := by rw [h, List.length_append]
    rw [Nat.succ_mul] at hk ⊢
    have hy : k * Z.length ≤ Y.length := by omega
    have e1 : X.take (k * Z.length + Z.length) = Z ++ Y.take (k * Z.length) := by
      rw [h, List.take_append, List.take_of_length_le (by omega)]
      congr 2; omega
    have e2 : Y.take (k * Z.length) = X.take (k * Z.length) := by
      obtain ⟨R, hR⟩ := hp
      rw [← hR, List.take_append_of_le_length hy]
    rw [e1, e2, pow_pre h hp k (by omega), List.replicate_succ, List.flatten_cons]
/-- where no row goes round a state rests -/
theorem rest {T : List (List Nat)} {Z lot : List Nat} {s : Nat} (hc : ∀ x ∈ lot, run T x Z ∈ lot) (hs : s ∈ lot) (hno : ∀ x ∈ lot, ¬ Circ T Z x) {c : Nat} (hl : lot.length ≤ c + 1) : it T Z c s = it T Z (c + 1) s := by
  have hin : ∀ k, it T Z k s ∈ lot := fun k => by
    induction k with
    | zero => exact hs
    | succ k ih => exact hc _ ih
  obtain ⟨i, j, hij, hj, e⟩ : ∃ i j, i < j ∧ j ≤ c + 1 ∧ it T Z i s = it T Z j s := by
    refine Classical.byContradiction fun hn => ?_
    have hnd : ((List.range (c + 2)).map fun k => it T Z k s).Nodup := by
      unfold List.Nodup
      rw [List.pairwise_map]
      refine (List.pairwise_lt_range (n := c + 2)).imp_of_mem fun {i j} hi hj hij e => ?_
      have := List.mem_range.mp hj
      exact hn ⟨i, j, hij, by omega, e⟩
    have := subset_len hnd (B := lot) fun x hx => by
      obtain ⟨k, _, rfl⟩ := List.mem_map.mp hx
      exact hin k
    simp at this
    omega
  have fix : run T (it T Z i s) Z = it T Z i s := by
    refine Classical.byContradiction fun hn => hno _ (hin i) ⟨hn, j - i, by omega, ?_⟩
    rw [← it_add, show i + (j - i) = j by omega]; exact e.symm
  have stay : ∀ k, it T Z (i + k) s = it T Z i s := fun k => by
    induction k with
    | zero => rfl
    | succ k ih => show run T (it T Z (i + k) s) Z = _; rw [ih, fix]
  have h1 := stay (c - i)
  have h2 := stay (c + 1 - i)
  rw [show i + (c - i) = c by omega] at h1
  rw [show i + (c + 1 - i) = c + 1 by omega] at h2
  rw [h1, h2]
theorem paperO_none {T : List (List Nat)} {a m : Nat} : ∀ {ks : List Nat}, paperO T a m ks = none → ∀ k ∈ ks, k % m = 0 → ∀ r ∈ rowsN T k, hitO T a r = false
  | [], _, k, hk, _, _, _ => by simp at hk
  | k0 :: ks, h, k, hk, hm, r, hr => by
    unfold paperO at h
    by_cases q : k0 % m = 0
    · rw [if_pos q] at h
      cases z : (rowsN T k0).find? (hitO T a) with
      | some u => rw [z] at h; cases h
      | none =>
        rw [z] at h
        rcases List.mem_cons.mp hk with rfl | hk
        · have := List.find?_eq_none.mp z r hr
          simpa using this
        · exact paperO_none h k hk hm r hr
    · rw [if_neg q] at h
      rcases List.mem_cons.mp hk with rfl | hk
      · exact absurd hm q
      · exact paperO_none h k hk hm r hr
theorem right_of {T : List (List Nat)} {n a loss m L : Nat} (t : Tab T n) (ha : a < n) (hno : paperO T a m (List.range' 1 loss) = none) (h1 : loss ≤ L) (h2 : loss * ((keysL (comeL T a)).length - 1) ≤ L) : Right T a L loss m := by
  have c := Come.at t ha 8
  have l : Lot T n a (keysL (comeL T a)) := ⟨c.nd, come_rch t ha⟩
  have key : ∀ w u v : List Nat, Row T w → Row T u → Row T v → u.length ≤ v.length → v.length ≤ loss → lastN L (w ++ u) = lastN L (w ++ v) → (w.length + u.length) % m = (w.length + v.length) % m → run T a (w ++ u) = run T a (w ++ v) := by
    intro w u v hw hu hv huv hvl hp hm
    by_cases hd : u.length = v.length
    · have e1 : lastN u.length (w ++ u) = u := lastN_end w rfl
      have e2 : lastN u.length (w ++ v) = v := lastN_end w hd.symm
      have e3 : lastN u.length (lastN L (w ++ u)) = lastN u.length (lastN L (w ++ v)) := by rw [hp]
      rw [lastN_lastN (by omega), lastN_lastN (by omega), e1, e2] at e3
      rw [e3]
    · have hlen := congrArg List.length hp
      rw [lastN_len, lastN_len, List.length_append, List.length_append] at hlen
      have hN : L ≤ w.length + u.length := by omega
      by_cases hc1 : (keysL (comeL T a)).length ≤ 1
      · -- one state comes
        have one : ∀ r : List Nat, Row T r → run T a r = a := fun r hr => by
          have m1 : a ∈ keysL (comeL T a) := c.st
          have m2 : run T a r ∈ keysL (comeL T a) := l.run hr a m1
          match hk : keysL (comeL T a), hc1, m1, m2 with
          | [x], _, m1, m2 => exact (List.mem_singleton.mp m2).trans (List.mem_singleton.mp m1).symm
          | [], _, m1, _ => simp at m1
          | _ :: _ :: _, h, _, _ => simp at h
        rw [one _ (hw.app hu), one _ (hw.app hv)]
      · -- w = w0 ++ Z ++ Y
        obtain ⟨d, hdd⟩ : ∃ d, v.length = u.length + d := ⟨v.length - u.length, by omega⟩
        have hd0 : 1 ≤ d := by omega
        let k0 := w.length + u.length - L
        have hk0 : k0 + d ≤ w.length := by show w.length + u.length - L + d ≤ w.length; omega
        have eX : lastN L (w ++ u) = w.drop k0 ++ u := by
          unfold lastN
          rw [List.length_append, List.drop_append_of_le_length (by omega)]
        have eY : lastN L (w ++ v) = w.drop (k0 + d) ++ v := by
          unfold lastN
          rw [List.length_append, show w.length + v.length - L = k0 + d by show _ = w.length + u.length - L + d; omega, List.drop_append_of_le_length hk0]
        have hXY : w.drop k0 ++ u = w.drop (k0 + d) ++ v := by rw [← eX, ← eY, hp]
        let w0 := w.take k0
        let Z := (w.drop k0).take d
        let X := w.drop k0
        let Y := w.drop (k0 + d)
        have hZ : X = Z ++ Y := by
          show w.drop k0 = (w.drop k0).take d ++ w.drop (k0 + d)
          rw [← List.drop_drop, List.take_append_drop]
        have hw0 : w = w0 ++ X := (List.take_append_drop k0 w).symm
        have hZl : Z.length = d := by show ((w.drop k0).take d).length = d; rw [List.length_take, List.length_drop]; omega
        have hXl : X.length = w.length - k0 := List.length_drop
        have hYl : Y.length = w.length - (k0 + d) := List.length_drop
        have hpre : Y <+: X := by
          have e : Y ++ v = X ++ u := hXY.symm
          exact List.prefix_of_prefix_length_le ⟨v, rfl⟩ (by rw [e]; exact ⟨u, rfl⟩) (by omega)
        have hwX : Row T X := by rw [hw0] at hw; exact hw.right
        have hw0r : Row T w0 := by rw [hw0] at hw; exact hw.left
        have hZr : Row T Z := by rw [hZ] at hwX; exact hwX.left
        obtain ⟨cc, hcc⟩ : ∃ cc, (keysL (comeL T a)).length = cc + 2 := ⟨(keysL (comeL T a)).length - 2, by omega⟩
        have hbig : (cc + 1) * Z.length ≤ X.length := by
          rw [hZl, hXl]
          rw [hcc] at h2
          have e1 : loss * (cc + 1) = (cc + 1) * loss := Nat.mul_comm _ _
          have e2 : (cc + 1) * (d + u.length) ≤ (cc + 1) * loss := Nat.mul_le_mul_left _ (by omega)
          rw [Nat.mul_add] at e2
          have e3 : u.length ≤ (cc + 1) * u.length := Nat.le_mul_of_pos_left _ (by omega)
          have e4 : loss * (cc + 2 - 1) = loss * (cc + 1) := rfl
          have e5 : w.length - k0 = L - u.length := by show w.length - (w.length + u.length - L) = _; omega
          omega
        have hs : run T a w0 ∈ keysL (comeL T a) := l.run hw0r a c.st
        have hnc : ∀ x ∈ keysL (comeL T a), ¬ Circ T Z x := fun x hx hcx => by
          have hb : turnB T Z x = true := decide_eq_true ((rnd_circ (l.run hZr) hx c.nd (l.le t ha)).mpr hcx)
          have hm0 : d % m = 0 := by
            have := Nat.sub_mod_eq_zero_of_mod_eq hm.symm
            rwa [show w.length + v.length - (w.length + u.length) = d by omega] at this
          have := paperO_none hno d (List.mem_range'_1.mpr ⟨hd0, by omega⟩) hm0 Z (by rw [← hZl]; exact rows_mem hZr)
          unfold hitO at this
          rw [List.any_eq_false] at this
          exact this x hx hb
        have hrest := rest (l.run hZr) hs hnc (c := cc + 1) (by omega)
        have hsplit : X = (List.replicate (cc + 1) Z).flatten ++ X.drop ((cc + 1) * Z.length) := by
          rw [← pow_pre hZ hpre (cc + 1) hbig, List.take_append_drop]
        have e1 : run T (run T a w0) X = run T (it T Z (cc + 1) (run T a w0)) (X.drop ((cc + 1) * Z.length)) := by
          conv => lhs; rw [hsplit]
          rw [run_two, run_rep]
        have e2 : run T (run T (run T a w0) Z) X = run T (it T Z (cc + 1 + 1) (run T a w0)) (X.drop ((cc + 1) * Z.length)) := by
          conv => lhs; rw [hsplit]
          rw [run_two, run_rep]
          have : it T Z (cc + 1) (run T (run T a w0) Z) = it T Z (1 + (cc + 1)) (run T a w0) := (it_add 1 (cc + 1)).symm
          rw [this, Nat.add_comm 1 (cc + 1)]
        have e3 : w ++ v = w0 ++ (Z ++ (X ++ u)) := by
          have : X ++ u = Y ++ v := hXY
          rw [this, ← List.append_assoc Z Y v, ← hZ, ← List.append_assoc, ← hw0]
        rw [e3]
        conv => lhs; rw [hw0]
        rw [List.append_assoc, run_two, run_two X, run_two w0, run_two Z, run_two X, e1, e2, ← hrest]
  intro w u v hw hu hv hul hvl hp hm
  by_cases q : u.length ≤ v.length
  · exact key w u v hw hu hv q hvl hp hm
  · exact (key w v u hw hv hu (by omega) hul hp.symm hm.symm).symm
/-- a row that goes round: two rows that leave one page and lead to unlike states -/
theorem circ_ne {T : List (List Nat)} {r : List Nat} {s : Nat} (h : Circ T r s) (k : Nat) : it T r k s ≠ it T r (k + 1) s := by
  obtain ⟨h1, t, ht, h2⟩ := h
  intro e
  have stay : ∀ j, it T r (k + j) s = it T r k s := fun j => by
    induction j with
    | zero => rfl
    | succ j ih =>
      show run T (it T r (k + j) s) r = _
      rw [ih]; exact e.symm
  have back : ∀ j, it T r (j * t) s = s := fun j => by
    induction j with
    | zero => simp [it]
    | succ j ih => rw [Nat.succ_mul, it_add, ih, h2]
  have e1 : it T r (k * t) s = it T r k s := by
    have : k ≤ k * t := Nat.le_mul_of_pos_right _ (by omega)
    have := stay (k * t - k)
    rwa [show k + (k * t - k) = k * t by omega] at this
  rw [back] at e1
  apply h1
  show run T s r = s
  have e' : it T r k s = run T (it T r k s) r := e
  rw [← e1] at e'
  exact e'.symm
theorem page_rep {r z : List Nat} {len k : Nat} (h : len ≤ k * r.length) : lastN len (z ++ (List.replicate k r).flatten) = lastN len ((z ++ (List.replicate k r).flatten) ++ r) := by
  have hl : ((List.replicate k r).flatten).length = k * r.length := rep_len k r
  rw [lastN_app z (by omega)]
  have : (z ++ (List.replicate k r).flatten) ++ r = (z ++ r) ++ (List.replicate k r).flatten := by
    rw [List.append_assoc, List.append_assoc]
    congr 1
    have e1 : (List.replicate k r).flatten ++ r = (List.replicate (k + 1) r).flatten := by
      rw [List.replicate_succ', List.flatten_append]; simp
    rw [e1, List.replicate_succ, List.flatten_cons]
  rw [this, lastN_app (z ++ r) (by omega)]
theorem paper_circ {T : List (List Nat)} {n a loss m : Nat} {r : List Nat} (t : Tab T n) (ha : a < n) (h : paperO T a m (List.range' 1 loss) = some r) : Circ T r (run T a (aheadO T a r)) ∧ 1 ≤ r.length := by
  obtain ⟨k, hk, hkm, hrk, hh⟩ := paperO_some h
  have hk1 := List.mem_range'_1.mp hk
  have hrl := rowsN_rowlen k r hrk
  have hrow : Row T r := rowsN_row k r hrk
  obtain ⟨p, hp, hb, hp2⟩ := aheadO_mem t ha hh
  have c := Come.at t ha 8
  have l : Lot T n a (keysL (comeL T a)) := ⟨c.nd, come_rch t ha⟩
  have hle : (keysL (comeL T a)).length ≤ n := nodup_le l.nd (l.lt t ha)
  have h8 : (keysL (comeL T a)).length ≤ 8 := Nat.le_trans hle t.n8
  refine ⟨?_, by omega⟩
  rw [← hp2, c.run p hp]
  exact (rnd_circ (l.run hrow) (mem_keys hp) c.nd h8).mp (of_decide_eq_true hb)
theorem wrong_of {T : List (List Nat)} {n a loss m L : Nat} {r : List Nat} (t : Tab T n) (ha : a < n) (h : paperO T a m (List.range' 1 loss) = some r) : ¬ Right T a L loss m := by
  obtain ⟨p1, p2, p3, p4, p5, p6⟩ := paper_hold t ha h
  obtain ⟨hc, hr1⟩ := paper_circ t ha h
  intro hR
  have := hR (aheadO T a r ++ (List.replicate L r).flatten) [] r (p1.app (p3.rep L)) (fun x hx => by simp at hx) p3 (Nat.zero_le _) p4 ?_ ?_
  · rw [List.append_nil, run_two (aheadO T a r), run_rep, List.append_assoc, run_two (aheadO T a r), run_two, run_rep] at this
    exact circ_ne hc L this
  · rw [List.append_nil]
    exact page_rep (Nat.le_mul_of_pos_right _ (by omega))
  · rw [List.length_nil, Nat.add_zero, Nat.add_mod _ r.length, p5, Nat.add_zero, Nat.mod_mod]
end DL.K18
set_option Elab.async false
set_option linter.all false
set_option maxRecDepth 100000
set_option maxHeartbeats 4000000
namespace DL.K18
open PySem L2 Evl DL
/-! ### sights -/
abbrev Sight := Nat × List Nat × Nat
section
variable {T : List (List Nat)} {n a L loss m : Nat}
def sOf (T : List (List Nat)) (a L m : Nat) (w : List Nat) : Sight := (run T a w, lastN L w, w.length % m)
def sNext (T : List (List Nat)) (L m : Nat) (σ : Sight) (x : Nat) : Sight := (stp T x σ.1, lastN L (σ.2.1 ++ [x]), (σ.2.2 + 1) % m)
theorem sNext_of (w : List Nat) (x : Nat) : sNext T L m (sOf T a L m w) x = sOf T a L m (w ++ [x]) := by
  unfold sNext sOf
  rw [run_app, lastN_two, List.length_append, Nat.mod_add_mod]
  rfl
def IsS (T : List (List Nat)) (a L m : Nat) (σ : Sight) : Prop := ∃ w, Row T w ∧ σ = sOf T a L m w
theorem IsS.next {σ : Sight} (h : IsS T a L m σ) {x : Nat} (hx : x < T.length) : IsS T a L m (sNext T L m σ x) := by
  obtain ⟨w, hw, rfl⟩ := h
  exact ⟨w ++ [x], hw.app (fun y hy => by rw [List.mem_singleton.mp hy]; exact hx), sNext_of w x⟩
theorem IsS.start : IsS T a L m (a, [], 0) := ⟨[], fun x hx => by simp at hx, by unfold sOf lastN; simp [run]⟩
theorem IsS.lt (t : Tab T n) (ha : a < n) {σ : Sight} (h : IsS T a L m σ) : σ.1 < n := by
  obtain ⟨w, hw, rfl⟩ := h
  exact run_lt t hw ha
theorem IsS.row {σ : Sight} (h : IsS T a L m σ) : Row T σ.2.1 ∧ σ.2.1.length ≤ L := by
  obtain ⟨w, hw, rfl⟩ := h
  refine ⟨fun x hx => hw x (List.mem_of_mem_drop hx), ?_⟩
  show (lastN L w).length ≤ L
  rw [lastN_len]; omega
theorem closed_all {S : List Sight} (h0 : (a, [], 0) ∈ S) (hc : ∀ σ ∈ S, ∀ x, x < T.length → sNext T L m σ x ∈ S) : ∀ k w, w.length = k → Row T w → sOf T a L m w ∈ S := by
  intro k
  induction k with
  | zero =>
    intro w hl _
    rw [List.eq_nil_of_length_eq_zero hl]
    have : sOf T a L m [] = (a, [], 0) := by unfold sOf lastN; simp [run]
    rw [this]; exact h0
  | succ k ih =>
    intro w hl hw
    have hne : w ≠ [] := fun z => by rw [z] at hl; cases hl
    have e := List.dropLast_concat_getLast hne
    have hd := ih w.dropLast (by rw [List.length_dropLast]; omega) fun x hx => hw x (List.dropLast_subset w hx)
    have := hc _ hd (w.getLast hne) (hw _ (List.getLast_mem hne))
    rw [sNext_of, e] at this
    exact this
/-! all of them are few -/
def uni (T : List (List Nat)) (n a L m : Nat) : List Sight :=
  ((List.range L).flatMap (rowsN T)).map (fun d => (run T a d, d, d.length % m)) ++ (rowsN T L).flatMap fun d => (List.range n).flatMap fun s => (List.range m).map fun q => (s, d, q)
theorem uni_mem (t : Tab T n) (ha : a < n) (hm : 1 ≤ m) {σ : Sight} (h : IsS T a L m σ) : σ ∈ uni T n a L m := by
  obtain ⟨w, hw, rfl⟩ := h
  unfold uni
  by_cases q : w.length < L
  · refine List.mem_append_left _ (List.mem_map.mpr ⟨w, List.mem_flatMap.mpr ⟨w.length, List.mem_range.mpr q, rows_mem hw⟩, ?_⟩)
    unfold sOf
    rw [lastN_all (by omega)]
  · refine List.mem_append_right _ (List.mem_flatMap.mpr ⟨lastN L w, ?_, List.mem_flatMap.mpr ⟨run T a w, List.mem_range.mpr (run_lt t hw ha), List.mem_map.mpr ⟨w.length % m, List.mem_range.mpr (Nat.mod_lt _ (by omega)), rfl⟩⟩⟩)
    have hr : Row T (lastN L w) := fun x hx => hw x (List.mem_of_mem_drop hx)
    have hl : (lastN L w).length = L := by rw [lastN_len]; omega
    have := rows_mem hr
    rwa [hl] at this
theorem flatMap_len {α β : Type} {f : α → List β} {c : Nat} : ∀ {l : List α}, (∀ x ∈ l, (f x).length = c) → (l.flatMap f).length = l.length * c
  | [], _ => by simp
  | x :: l, h => by
    rw [List.flatMap_cons, List.length_append, h x (by simp), flatMap_len fun y hy => h y (by simp [hy]), List.length_cons, Nat.succ_mul, Nat.add_comm]
def psum (t : Nat) : Nat → Nat
  | 0 => 0
  | k + 1 => psum t k + t ^ k
theorem flat_rows : ∀ L, ((List.range L).flatMap (rowsN T)).length = psum T.length L
  | 0 => rfl
  | L + 1 => by
    rw [List.range_succ, List.flatMap_append, List.length_append, flat_rows L]
    simp [psum, rowsN_len]
theorem uni_len : (uni T n a L m).length = psum T.length L + T.length ^ L * (n * m) := by
  unfold uni
  rw [List.length_append, List.length_map, flat_rows, flatMap_len (c := n * m) fun d _ => ?_, rowsN_len]
  rw [flatMap_len (c := m) fun s _ => by simp]
  simp
/-- few deeds, short pages -/
def Few (T : List (List Nat)) (n L m : Nat) : Prop := n * m ≤ 12 ∧ (T.length = 1 ∧ L ≤ 9 ∨ T.length = 2 ∧ L ≤ 6)
theorem few_uni (f : Few T n L m) : (uni T n a L m).length ≤ 900 := by
  rw [uni_len]
  obtain ⟨h1, ⟨h2, h3⟩ | ⟨h2, h3⟩⟩ := f
  · rw [h2]
    have : ∀ L, L < 10 → psum 1 L ≤ 9 ∧ 1 ^ L ≤ 1 := by decide
    obtain ⟨e1, e2⟩ := this L (by omega)
    have := Nat.mul_le_mul e2 h1
    omega
  · rw [h2]
    have : ∀ L, L < 7 → psum 2 L ≤ 63 ∧ 2 ^ L ≤ 64 := by decide
    obtain ⟨e1, e2⟩ := this L (by omega)
    have := Nat.mul_le_mul e2 h1
    omega
theorem sights_few (t : Tab T n) (ha : a < n) (hm : 1 ≤ m) (f : Few T n L m) {S : List Sight} (nd : S.Nodup) (hS : ∀ σ ∈ S, IsS T a L m σ) : S.length ≤ 900 :=
  Nat.le_trans (subset_len nd fun σ hσ => uni_mem t ha hm (hS σ hσ)) (few_uni f)
/-! pages -/
def pg (L m : Nat) (σ : Sight) (u : List Nat) : List Nat × Nat := (lastN L (σ.2.1 ++ u), (σ.2.2 + u.length) % m)
theorem pg_of (w u : List Nat) : pg L m (sOf T a L m w) u = (lastN L (w ++ u), (w.length + u.length) % m) := by
  unfold pg sOf
  rw [lastN_two, Nat.mod_add_mod]
def rowsUp (T : List (List Nat)) : Nat → List (List Nat)
  | 0 => [[]]
  | k + 1 => rowsUp T k ++ rowsN T (k + 1)
theorem rowsUp_mem {u : List Nat} : ∀ k, u ∈ rowsUp T k ↔ Row T u ∧ u.length ≤ k
  | 0 => by
    constructor
    · intro h; rw [List.mem_singleton.mp h]; exact ⟨fun x hx => by simp at hx, Nat.le_refl _⟩
    · intro ⟨_, h⟩; rw [List.eq_nil_of_length_eq_zero (l := u) (by omega)]; exact List.mem_singleton.mpr rfl
  | k + 1 => by
    show u ∈ rowsUp T k ++ rowsN T (k + 1) ↔ _
    rw [List.mem_append, rowsUp_mem k]
    constructor
    · rintro (⟨h1, h2⟩ | h)
      · exact ⟨h1, by omega⟩
      · exact ⟨rowsN_row _ _ h, by rw [rowsN_rowlen _ _ h]; omega⟩
    · intro ⟨h1, h2⟩
      by_cases q : u.length ≤ k
      · exact .inl ⟨h1, q⟩
      · have := rows_mem h1
        rw [show u.length = k + 1 by omega] at this
        exact .inr this
def CF (T : List (List Nat)) (L loss m : Nat) (σ : Sight) : Prop := ∀ u ∈ rowsUp T loss, ∀ v ∈ rowsUp T loss, pg L m σ u = pg L m σ v → run T σ.1 u = run T σ.1 v
theorem right_cf : Right T a L loss m ↔ ∀ σ, IsS T a L m σ → CF T L loss m σ := by
  constructor
  · rintro h _ ⟨w, hw, rfl⟩ u hu v hv e
    obtain ⟨u1, u2⟩ := (rowsUp_mem loss).mp hu
    obtain ⟨v1, v2⟩ := (rowsUp_mem loss).mp hv
    rw [pg_of, pg_of, Prod.mk.injEq] at e
    have := h w u v hw u1 v1 u2 v2 e.1 e.2
    rw [run_two, run_two] at this
    exact this
  · intro h w u v hw hu hv h1 h2 e1 e2
    rw [run_two, run_two]
    refine h _ ⟨w, hw, rfl⟩ u ((rowsUp_mem loss).mpr ⟨hu, h1⟩) v ((rowsUp_mem loss).mpr ⟨hv, h2⟩) ?_
    rw [pg_of, pg_of, e1, e2]
theorem right_zero : Right T a L 0 m := fun w u v _ _ _ h1 h2 _ _ => by
  rw [List.eq_nil_of_length_eq_zero (l := u) (by omega), List.eq_nil_of_length_eq_zero (l := v) (by omega)]
theorem right_done {S : List Sight} (h0 : (a, [], 0) ∈ S) (hc : ∀ σ ∈ S, CF T L loss m σ ∧ ∀ u ∈ rowsUp T loss, u.length = 1 → sNext T L m σ (u.headD 0) ∈ S) : Right T a L loss m := by
  by_cases hl : loss = 0
  · subst hl; exact right_zero
  · refine right_cf.mpr fun σ ⟨w, hw, e⟩ => ?_
    have hcl : ∀ σ ∈ S, ∀ x, x < T.length → sNext T L m σ x ∈ S := fun σ hσ x hx => (hc σ hσ).2 [x] ((rowsUp_mem loss).mpr ⟨fun y hy => by rw [List.mem_singleton.mp hy]; exact hx, by simp; omega⟩) rfl
    subst e
    exact (hc _ (closed_all h0 hcl _ w rfl hw)).1
end
/-! ### keys -/
def nkR (r : List Nat) : NestedKey := .tup (r.map fun x : Nat => NestedKey.num (x : Int))
def sKey (σ : Sight) : NestedKey := .tup [.num (σ.1 : Int), nkR σ.2.1, .num (σ.2.2 : Int)]
def pKey (p : List Nat × Nat) : NestedKey := .tup [nkR p.1, .num (p.2 : Int)]
abbrev sD (σ : Sight) : D := .tuple [nD σ.1, rowD σ.2.1, nD σ.2.2]
abbrev pD (p : List Nat × Nat) : D := .tuple [rowD p.1, nD p.2]
theorem nks_row : ∀ r : List Nat, nksOf (r.map nD) = some (r.map fun x : Nat => NestedKey.num (x : Int))
  | [] => rfl
  | x :: r => by
    show (D.nk (nD x)).bind _ = _
    rw [nks_row r]; rfl
theorem dep_row : ∀ r : List Nat, NestedKey.depthAll (r.map fun x : Nat => NestedKey.num (x : Int)) = 0
  | [] => rfl
  | x :: r => by
    rw [List.map_cons, NestedKey.depthAll, dep_row r, NestedKey.depth]; rfl
theorem nk_row (r : List Nat) : D.nk (rowD r) = some (nkR r) := by
  show (nksOf (r.map nD)).map NestedKey.tup = _
  rw [nks_row]; rfl
theorem dep_nkR (r : List Nat) : (nkR r).depth = 1 := by
  unfold nkR; rw [NestedKey.depth, dep_row]
theorem sKey_of (σ : Sight) : D.nkT (sD σ) = some (sKey σ) := by
  have h : nksOf [nD σ.1, rowD σ.2.1, nD σ.2.2] = some [.num (σ.1 : Int), nkR σ.2.1, .num (σ.2.2 : Int)] := by
    show (D.nk (nD σ.1)).bind (fun k => ((D.nk (rowD σ.2.1)).bind fun k => ((D.nk (nD σ.2.2)).bind fun k => (some ([] : List NestedKey)).map (k :: ·)).map (k :: ·)).map (k :: ·)) = _
    rw [nk_row]; rfl
  show (nksOf [nD σ.1, rowD σ.2.1, nD σ.2.2]).bind _ = _
  rw [h]
  show (if (sKey σ).depth ≤ 8 then some (sKey σ) else none) = _
  rw [if_pos]
  unfold sKey
  simp [NestedKey.depth, NestedKey.depthAll, dep_nkR]
theorem pKey_of (p : List Nat × Nat) : D.nkT (pD p) = some (pKey p) := by
  have h : nksOf [rowD p.1, nD p.2] = some [nkR p.1, .num (p.2 : Int)] := by
    show (D.nk (rowD p.1)).bind (fun k => ((D.nk (nD p.2)).bind fun k => (some ([] : List NestedKey)).map (k :: ·)).map (k :: ·)) = _
    rw [nk_row]; rfl
  show (nksOf [rowD p.1, nD p.2]).bind _ = _
  rw [h]
  show (if (pKey p).depth ≤ 8 then some (pKey p) else none) = _
  rw [if_pos]
  unfold pKey
  simp [NestedKey.depth, NestedKey.depthAll, dep_nkR]
theorem nums_inj : ∀ {r q : List Nat}, (r.map fun x : Nat => NestedKey.num (x : Int)) = (q.map fun x : Nat => NestedKey.num (x : Int)) → r = q
  | [], [], _ => rfl
  | [], _ :: _, h => by simp at h
  | _ :: _, [], h => by simp at h
  | x :: r, y :: q, h => by
    rw [List.map_cons, List.map_cons] at h
    injection h with h1 h2
    injection h1 with h1
    rw [nums_inj h2, show x = y by omega]
theorem nkR_inj {r q : List Nat} (h : nkR r = nkR q) : r = q := by
  unfold nkR at h
  injection h with h
  exact nums_inj h
theorem sKey_inj {σ τ : Sight} (h : sKey σ = sKey τ) : σ = τ := by
  obtain ⟨s, r, q⟩ := σ
  obtain ⟨s', r', q'⟩ := τ
  unfold sKey at h
  injection h with h
  injection h with h1 h
  injection h with h2 h
  injection h with h3 _
  injection h1 with h1
  injection h3 with h3
  have h1 : (s : Int) = s' := h1
  have h3 : (q : Int) = q' := h3
  have e2 : r = r' := nkR_inj h2
  rw [show s = s' by omega, e2, show q = q' by omega]
theorem pKey_inj {σ τ : List Nat × Nat} (h : pKey σ = pKey τ) : σ = τ := by
  obtain ⟨r, q⟩ := σ
  obtain ⟨r', q'⟩ := τ
  unfold pKey at h
  injection h with h
  injection h with h2 h
  injection h with h3 _
  injection h3 with h3
  have h3 : (q : Int) = q' := h3
  have e2 : r = r' := nkR_inj h2
  rw [e2, show q = q' by omega]
/-! ### tables -/
theorem dVal_new {κ : Type} [DecidableEq κ] {kvs : List (κ × D)} {k : κ} {v : D} (h : dVal kvs k = none) : dPut kvs k v = kvs ++ [(k, v)] := by
  unfold dPut
  rw [dVal_any, h]; rfl
theorem dVal_app {κ : Type} [DecidableEq κ] {k j : κ} {v : D} : ∀ {kvs : List (κ × D)}, dVal kvs k = none → dVal (kvs ++ [(k, v)]) j = if j = k then some v else dVal kvs j
  | [], _ => by
    by_cases e : k = j
    · simp [dVal, List.find?_cons, e]
    · have e' : ¬ j = k := fun z => e z.symm
      simp [dVal, List.find?_cons, e, e']
  | p :: r, h => by
    have hk : ¬ p.1 = k := fun z => by simp [dVal, List.find?_cons, z] at h
    have h2 : dVal r k = none := by simpa [dVal, List.find?_cons, hk] using h
    have ih := dVal_app (j := j) (v := v) h2
    by_cases e : p.1 = j
    · have e' : ¬ j = k := fun z => hk (e.trans z)
      simp [dVal, List.find?_cons, e, e']
    · have e1 : dVal (p :: r ++ [(k, v)]) j = dVal (r ++ [(k, v)]) j := by simp [dVal, List.find?_cons, e]
      have e2 : dVal (p :: r) j = dVal r j := by simp [dVal, List.find?_cons, e]
      rw [e1, e2, ih]
def thD (S : List Sight) : List (NestedKey × D) := S.map fun σ => (sKey σ, D.bool true)
theorem thD_none {σ : Sight} : ∀ {S : List Sight}, σ ∉ S → dVal (thD S) (sKey σ) = none
  | [], _ => rfl
  | τ :: S, h => by
    have h1 : ¬ sKey τ = sKey σ := fun z => h (by rw [sKey_inj z]; simp)
    have h2 := thD_none (σ := σ) (S := S) fun z => h (by simp [z])
    have : dVal (thD (τ :: S)) (sKey σ) = dVal (thD S) (sKey σ) := by simp [dVal, thD, List.find?_cons, h1]
    rw [this, h2]
theorem thD_some {σ : Sight} : ∀ {S : List Sight}, σ ∈ S → (dVal (thD S) (sKey σ)).isSome = true
  | τ :: S, h => by
    by_cases z : sKey τ = sKey σ
    · simp [dVal, thD, List.find?_cons, z]
    · have : dVal (thD (τ :: S)) (sKey σ) = dVal (thD S) (sKey σ) := by simp [dVal, thD, List.find?_cons, z]
      rw [this]
      rcases List.mem_cons.mp h with rfl | h
      · exact absurd rfl z
      · exact thD_some h
theorem cut_lo {xs : List D} {k : Int} {j : Nat} (hk : k = j) (hj : j ≤ xs.length) : cutD xs (some k) none = xs.drop j := by
  subst hk
  unfold cutD
  rw [HT.sIx_nat, HT.sIx_none, Nat.min_eq_left hj, List.take_of_length_le (by rw [List.length_drop]; omega)]
theorem cut_hi {xs : List D} {k : Int} {j : Nat} (hk : k = j) (hj : j ≤ xs.length) : cutD xs none (some k) = xs.take j := by
  subst hk
  unfold cutD
  rw [HT.sIx_nat, HT.sIx_none, Nat.min_eq_left hj, List.drop_zero, Nat.sub_zero]
theorem cut_last {w : List Nat} {L : Nat} {k : Int} (hk : k = max 0 ((w.length : Int) - (L : Int))) : cutD (w.map nD) (some k) none = (lastN L w).map nD := by
  rw [cut_lo (j := w.length - L) (by rw [hk]; omega) (by rw [List.length_map]; omega)]
  unfold lastN
  rw [List.map_drop]
end DL.K18
set_option Elab.async false
set_option linter.all false
set_option maxRecDepth 100000
set_option maxHeartbeats 4000000
namespace DL.K18
open PySem L2 Evl DL
theorem paper_cons {T : List (List Nat)} {a m k : Nat} {ks : List Nat} (q : k % m = 0) : (paperO T a m (k :: ks)).isSome = (((rowsN T k).any (hitO T a)) || (paperO T a m ks).isSome) := by
  have e : paperO T a m (k :: ks) = match (rowsN T k).find? (hitO T a) with
    | some r => some r
    | none => paperO T a m ks := by
    conv => lhs; unfold paperO
    rw [if_pos q]
    all_goals (cases (rowsN T k).find? (hitO T a) <;> rfl)
  rw [e, any_find]
  cases (rowsN T k).find? (hitO T a) <;> simp
section
variable {C : Addr} {XX : Exn → List Sl → Prop} {R : Rv → List Sl → Prop}
theorem law_goes_ok {T : List (List Nat)} {n a loss m : Nat} (t : Tab T n) (ha : a < n) (hl : loss ≤ 8) (h1 : 1 ≤ m) (h9 : m ≤ 9) (h : R (.d (.bool (paperO T a m (List.range' 1 loss)).isSome)) [.un, .un, .un, .un]) : dc__law_goes C [.fz (tabD T), .fz (nD a), .fz (nD loss), .fz (nD m)] XX R := by
  refine di__law_goes ?_
  unfold ds__law_goes
  bv_omega
  refine law_come_ok t ha ?_
  bv_omega
  refine w_ixT (atI_1 _ _ _) ?_
  bv_omega
  refine ⟨rfl, ?_⟩
  bv_omega
  refine ⟨⟨by decide, by decide⟩, ⟨by omega, by omega⟩, ?_⟩
  rw [show ∀ k : Nat, rangeD 1 1 k = (List.range' 1 k).map nD from fun k => rangeD1 1 k]
  refine forL_go (I := fun ds ρ => ∃ (k j : Nat) (s4 s6 s7 s8 : Sl), ds = (List.range' (k + 1) j).map nD ∧ k + j = loss ∧ Two s6 (.lst ((rowsN T k).map rowD)) ∧ (paperO T a m (List.range' (k + 1) j)).isSome = (paperO T a m (List.range' 1 loss)).isSome ∧ ρ = [.fz (tabD T), .fz (nD a), .fz (nD loss), .fz (nD m), s4, .fz (.list ((keysL (comeL T a)).map nD)), s6, s7, s8, .un, .un]) (fun d ds ρ Kx hK hI => ?_) (fun ρ hI => ?_) ⟨0, loss, .un, .ow false (.lst [rowD []]), .un, .un, by congr 2; omega, by omega, .inl rfl, rfl, rfl⟩
  · obtain ⟨k, j, s4, s6, s7, s8, e, hkm, hs6, hpap, rfl⟩ := hI
    cases j with
    | zero => cases e
    | succ j =>
      rw [List.range'_succ] at e hpap
      cases e
      have hk8 : k + 1 ≤ 8 := by omega
      have hsm := rows_small t hk8
      have hsk := rows_small t (show k ≤ 8 by omega)
      bv_omega
      refine w_varB (i := 6) hs6 ?_
      bv_omega
      refine forL_go (I := fun ds ρ => ∃ (A B : List (List Nat)) (s7 s8 : Sl), ds = B.map rowD ∧ rowsN T k = A ++ B ∧ Two s7 (.lst ((ext T A).map rowD)) ∧ ρ = [.fz (tabD T), .fz (nD a), .fz (nD loss), .fz (nD m), .fz (nD (k + 1)), .fz (.list ((keysL (comeL T a)).map nD)), .fz (.list ((rowsN T k).map rowD)), s7, s8, .un, .un]) (fun d ds ρ Ky hKy hJ => ?_) (fun ρ hJ => ?_) ⟨[], rowsN T k, .ow false (.lst []), s8, rfl, rfl, .inl rfl, rfl⟩
      · obtain ⟨A, B, s7, s8, e, hab, hs7, rfl⟩ := hJ
        cases B with
        | nil => cases e
        | cons r B =>
          cases e
          have hrl : r.length = k := rowsN_rowlen k r (by rw [hab]; simp)
          have hle : ((ext T A) ++ blockR T r).length ≤ 65536 := by
            have e1 : (rowsN T (k + 1)) = ext T A ++ (blockR T r ++ ext T B) := by
              show ext T (rowsN T k) = _
              rw [hab, ext_app]; rfl
            rw [e1] at hsm
            simp only [List.length_append] at hsm ⊢
            omega
          have hbl : (blockR T r).length = T.length := by simp [blockR]
          bv_omega
          refine w_varB (i := 7) hs7 ?_
          bv_omega
          refine w_nlc ?_
          bv_omega
          refine ⟨⟨by omega, by rw [List.length_map]; have := t.t4; omega⟩, ?_⟩
          rw [List.length_map, Int.toNat_natCast, show rangeD 0 1 T.length = (List.range' 0 T.length).map nD from rangeD1 0 T.length]
          refine ⟨by rw [List.length_map, List.length_range']; have := t.t4; omega, ?_⟩
          refine lcL_map (fun d => D.tuple (r.map nD ++ [d])) (fun d hd K hK => ?_) ?_
          · obtain ⟨x, hx, rfl⟩ := List.mem_map.mp hd
            bv_omega
            refine w_addT (big (by rw [List.length_map]; simp; omega)) ?_
            exact hK _ rfl
          · rw [List.nil_append, blk_map]
            bv_omega
            refine w_addL (big (by rw [← List.length_append, ← List.map_append, List.length_map]; omega)) ?_
            rw [← List.map_append]
            bv_omega
            refine hKy _ ⟨A ++ [r], B, _, _, rfl, by rw [hab]; simp, .inr ?_, rfl⟩
            rw [ext_app, ext_one]
            rfl
      · obtain ⟨A, B, s7, s8, e, hab, hs7, rfl⟩ := hJ
        cases B with
        | cons r B => cases e
        | nil =>
          have hA : A = rowsN T k := by rw [hab]; simp
          subst hA
          bv_omega
          refine w_varB (i := 7) hs7 ?_
          rw [show ext T (rowsN T k) = rowsN T (k + 1) from rfl]
          bv_omega
          refine w_dII (by omega) ?_
          bv_omega
          by_cases q : (k + 1) % m = 0
          · have q1 : ((k + 1 : Nat) : Int) % (m : Int) = 0 := by omega
            rw [decide_eq_true q1]
            have hp2 := hpap.symm.trans (paper_cons (ks := List.range' (k + 1 + 1) j) q)
            bv_omega
            refine forL_go (I := fun ds ρ => ∃ (A B : List (List Nat)) (s8 : Sl), ds = B.map rowD ∧ rowsN T (k + 1) = A ++ B ∧ A.any (hitO T a) = false ∧ ρ = [.fz (tabD T), .fz (nD a), .fz (nD loss), .fz (nD m), .fz (nD (k + 1)), .fz (.list ((keysL (comeL T a)).map nD)), .fz (.list ((rowsN T (k + 1)).map rowD)), .fz (.list ((rowsN T (k + 1)).map rowD)), s8, .un, .un]) (fun d ds ρ Ky hKy hJ => ?_) (fun ρ hJ => ?_) ⟨[], rowsN T (k + 1), s8, rfl, rfl, rfl, rfl⟩
            · obtain ⟨A, B, s8, e, hab, hA, rfl⟩ := hJ
              cases B with
              | nil => cases e
              | cons r B =>
                cases e
                have hr : Row T r := rowsN_row (k + 1) r (by rw [hab]; simp)
                have hkl : (keysL (comeL T a)).length ≤ 8 := by
                  have e1 : (keysL (comeL T a)).length = (comeL T a).length := by simp [keysL]
                  have e2 : (comeL T a).length ≤ n := (Come.at t ha 8).le
                  have e3 := t.n8
                  omega
                bv_omega
                refine w_nlc ?_
                bv_omega
                refine ⟨by rw [List.length_map]; omega, ?_⟩
                refine lcL_go (I := fun ds acc ρ => ∃ (U V : List Nat), ds = V.map nD ∧ keysL (comeL T a) = U ++ V ∧ acc = (U.filter (turnB T r)).map nD ∧ ρ = [.fz (tabD T), .fz (nD a), .fz (nD loss), .fz (nD m), .fz (nD (k + 1)), .fz (.list ((keysL (comeL T a)).map nD)), .fz (.list ((rowsN T (k + 1)).map rowD)), .fz (.list ((rowsN T (k + 1)).map rowD)), .fz (rowD r), .un, .un]) (fun d ds acc ρ Kw hKw hIw => ?_) (fun acc ρ hIw => ?_) ⟨[], keysL (comeL T a), rfl, rfl, rfl, rfl⟩
                · obtain ⟨U, V, e, huv, rfl, rfl⟩ := hIw
                  cases V with
                  | nil => cases e
                  | cons x V =>
                    cases e
                    have hx : x < n := ((come_rch t ha x).mp (by rw [huv]; simp)).lt t ha
                    bv_omega
                    refine rounds_ok t hx hr ?_
                    bv_omega
                    rw [show decide ((1 : Int) < (rnd T x r 8 : Nat)) = turnB T r x from decide_eq_decide.mpr (by omega)]
                    by_cases z : turnB T r x = true
                    · rw [z]
                      bv_omega
                      exact hKw _ _ ⟨U ++ [x], V, rfl, by rw [huv]; simp, by simp [List.filter_append, List.filter_cons, z], rfl⟩
                    · rw [Bool.not_eq_true] at z
                      rw [z]
                      bv_omega
                      exact hKw _ _ ⟨U ++ [x], V, rfl, by rw [huv]; simp, by simp [List.filter_append, List.filter_cons, z], rfl⟩
                · obtain ⟨U, V, e, huv, rfl, rfl⟩ := hIw
                  cases V with
                  | cons x V => cases e
                  | nil =>
                    have hU : U = keysL (comeL T a) := by rw [huv]; simp
                    subst hU
                    bv_omega
                    refine w_eq ⟨ok_listN _, rfl⟩ ?_
                    rw [if_pos rfl, deq_list_nil, empt_map, empt_filter, show (keysL (comeL T a)).any (turnB T r) = hitO T a r from rfl]
                    by_cases z : hitO T a r = true
                    · rw [z]
                      have hfr : (rowsN T (k + 1)).any (hitO T a) = true := List.any_eq_true.mpr ⟨r, by rw [hab]; simp, z⟩
                      rw [hp2, hfr] at h
                      bv_omega
                      exact h
                    · rw [Bool.not_eq_true] at z
                      rw [z]
                      bv_omega
                      refine hKy _ ⟨A ++ [r], B, _, rfl, by rw [hab]; simp, by rw [List.any_append, hA]; simp [z], rfl⟩
            · obtain ⟨A, B, s8, e, hab, hA, rfl⟩ := hJ
              cases B with
              | cons r B => cases e
              | nil =>
                have hfr : (rowsN T (k + 1)).any (hitO T a) = false := by rw [hab, List.append_nil, hA]
                rw [hfr, Bool.false_or] at hp2
                refine hK _ ⟨k + 1, j, _, _, _, _, rfl, by omega, .inr rfl, hp2.symm, rfl⟩
          · have q1 : ¬ ((k + 1 : Nat) : Int) % (m : Int) = 0 := by omega
            rw [decide_eq_false q1]
            have hp2 : (paperO T a m (List.range' (k + 1 + 1) j)).isSome = (paperO T a m (List.range' 1 loss)).isSome := by
              rw [← hpap]; conv => rhs; unfold paperO
              rw [if_neg q]
            bv_omega
            refine forL_go (I := fun ds ρ => ds = [] ∧ ρ = [.fz (tabD T), .fz (nD a), .fz (nD loss), .fz (nD m), .fz (nD (k + 1)), .fz (.list ((keysL (comeL T a)).map nD)), .fz (.list ((rowsN T (k + 1)).map rowD)), .fz (.list ((rowsN T (k + 1)).map rowD)), s8, .un, .un]) (fun d ds ρ Ky hKy hJ => ?_) (fun ρ hJ => ?_) ⟨rfl, rfl⟩
            · obtain ⟨e, _⟩ := hJ; cases e
            · obtain ⟨_, rfl⟩ := hJ
              refine hK _ ⟨k + 1, j, _, _, _, _, rfl, by omega, .inr rfl, hp2, rfl⟩
  · obtain ⟨k, j, s4, s6, s7, s8, e, hkm, hs6, hpap, rfl⟩ := hI
    cases j with
    | succ j => cases e
    | zero =>
      rw [← hpap] at h
      bv_omega
      exact h
end
end DL.K18
set_option Elab.async false
set_option linter.all false
set_option maxRecDepth 100000
set_option maxHeartbeats 4000000
namespace DL.K18
open PySem L2 Evl DL
section
variable {T : List (List Nat)} {n a L loss m : Nat}
theorem rowsUp_small (t : Tab T n) (hl : loss ≤ 3) : (rowsUp T loss).length ≤ 1000 := by
  have hp : ∀ k, k ≤ 3 → (rowsN T k).length ≤ 64 := fun k hk => by
    rw [rowsN_len]
    have h4 := t.t4
    have : ∀ k, k < 4 → 4 ^ k ≤ 64 := by decide
    exact Nat.le_trans (Nat.pow_le_pow_left h4 k) (this k (by omega))
  have : ∀ k, k ≤ 3 → (rowsUp T k).length ≤ 1 + k * 64 := by
    intro k
    induction k with
    | zero => intro _; exact Nat.le_refl _
    | succ k ih =>
      intro hk
      show (rowsUp T k ++ rowsN T (k + 1)).length ≤ _
      rw [List.length_append]
      have := ih (by omega)
      have := hp (k + 1) hk
      omega
  have := this loss hl
  omega
/-- what stands in the dict of pages -/
structure Ends (T : List (List Nat)) (L m : Nat) (σ : Sight) (A : List (List Nat)) (E : List (NestedKey × D)) : Prop where
  has : ∀ u ∈ A, dVal E (pKey (pg L m σ u)) = some (nD (run T σ.1 u))
  from_ : ∀ p d, dVal E (pKey p) = some d → ∃ u ∈ A, pg L m σ u = p ∧ d = nD (run T σ.1 u)
  len : E.length ≤ A.length
theorem Ends.nil {σ : Sight} : Ends T L m σ [] [] := ⟨fun u hu => by simp at hu, fun p d h => by simp [dVal] at h, Nat.le_refl _⟩
theorem Ends.old {σ : Sight} {A : List (List Nat)} {E : List (NestedKey × D)} (h : Ends T L m σ A E) {u : List Nat} (e : dVal E (pKey (pg L m σ u)) = some (nD (run T σ.1 u))) : Ends T L m σ (A ++ [u]) E :=
  ⟨fun v hv => by
    rcases List.mem_append.mp hv with hv | hv
    · exact h.has v hv
    · rw [List.mem_singleton.mp hv]; exact e, fun p d hd => by
    obtain ⟨v, hv, e1, e2⟩ := h.from_ p d hd
    exact ⟨v, List.mem_append_left _ hv, e1, e2⟩, by have := h.len; simp; omega⟩
theorem Ends.new {σ : Sight} {A : List (List Nat)} {E : List (NestedKey × D)} (h : Ends T L m σ A E) {u : List Nat} (e : dVal E (pKey (pg L m σ u)) = none) : Ends T L m σ (A ++ [u]) (dPut E (pKey (pg L m σ u)) (nD (run T σ.1 u))) := by
  rw [dVal_new e]
  refine ⟨fun v hv => ?_, fun p d hd => ?_, by have := h.len; simp; omega⟩
  · rw [dVal_app e]
    by_cases z : pKey (pg L m σ v) = pKey (pg L m σ u)
    · rw [if_pos z]
      rcases List.mem_append.mp hv with hv | hv
      · have := h.has v hv
        rw [z, e] at this; cases this
      · rw [List.mem_singleton.mp hv]
    · rw [if_neg z]
      rcases List.mem_append.mp hv with hv | hv
      · exact h.has v hv
      · rw [List.mem_singleton.mp hv] at z; exact absurd rfl z
  · rw [dVal_app e] at hd
    by_cases z : pKey p = pKey (pg L m σ u)
    · rw [if_pos z] at hd
      cases hd
      exact ⟨u, List.mem_append_right _ (List.mem_singleton.mpr rfl), (pKey_inj z).symm, rfl⟩
    · rw [if_neg z] at hd
      obtain ⟨v, hv, e1, e2⟩ := h.from_ p d hd
      exact ⟨v, List.mem_append_left _ hv, e1, e2⟩
theorem Ends.cf {σ : Sight} {E : List (NestedKey × D)} (h : Ends T L m σ (rowsUp T loss) E) : CF T L loss m σ := fun u hu v hv e => by
  have h1 := h.has u hu
  have h2 := h.has v hv
  rw [e, h2] at h1
  injection h1 with h1
  injection h1 with h1
  omega
end
def Done (T : List (List Nat)) (L loss m : Nat) (S : List Sight) (σ : Sight) : Prop := CF T L loss m σ ∧ ∀ u ∈ rowsUp T loss, u.length = 1 → sNext T L m σ (u.headD 0) ∈ S
section
variable {C : Addr} {XX : Exn → List Sl → Prop} {R : Rv → List Sl → Prop}
theorem law_is_right_ok {T : List (List Nat)} {n a L loss m : Nat} (t : Tab T n) (ha : a < n) (hl : loss ≤ 3) (h1 : 1 ≤ m) (h9 : m ≤ 9) (hL : L ≤ 9) (f : Few T n L m) (h : ∀ b, (b = true ↔ Right T a L loss m) → R (.d (.bool b)) [.un, .un, .un, .un, .un]) : dc__law_is_right C [.fz (tabD T), .fz (nD a), .fz (nD L), .fz (nD loss), .fz (nD m)] XX R := by
  have ht4 := t.t4
  have hup := rowsUp_small t hl
  refine di__law_is_right ?_
  unfold ds__law_is_right
  bv_omega
  refine ⟨⟨by omega, by omega⟩, ?_⟩
  rw [Int.toNat_natCast, show rangeD 0 1 loss = (List.range' 0 loss).map nD from rangeD1 0 loss]
  refine forL_go (I := fun ds ρ => ∃ (k j : Nat) (s5 s6 s7 s8 s9 : Sl), ds = (List.range' k j).map nD ∧ k + j = loss ∧ Two s5 (.lst ((rowsUp T k).map rowD)) ∧ Two s6 (.lst ((rowsN T k).map rowD)) ∧ ρ = [.fz (tabD T), .fz (nD a), .fz (nD L), .fz (nD loss), .fz (nD m), s5, s6, s7, s8, s9, .un, .un, .un, .un, .un, .un, .un, .un, .un, .un]) (fun d ds ρ Kx hK hI => ?_) (fun ρ hI => ?_) ⟨0, loss, .ow false (.lst [rowD []]), .ow false (.lst [rowD []]), .un, .un, .un, rfl, by omega, .inl rfl, .inl rfl, rfl⟩
  · obtain ⟨k, j, s5, s6, s7, s8, s9, e, hkm, hs5, hs6, rfl⟩ := hI
    cases j with
    | zero => cases e
    | succ j =>
      rw [List.range'_succ] at e
      cases e
      have hsm := rows_small t (show k + 1 ≤ 8 by omega)
      have hup1 := rowsUp_small t (show k + 1 ≤ 3 by omega)
      bv_omega
      refine w_varB (i := 6) hs6 ?_
      bv_omega
      refine forL_go (I := fun ds ρ => ∃ (A B : List (List Nat)) (s8 s9 : Sl), ds = B.map rowD ∧ rowsN T k = A ++ B ∧ Two s8 (.lst ((ext T A).map rowD)) ∧ ρ = [.fz (tabD T), .fz (nD a), .fz (nD L), .fz (nD loss), .fz (nD m), s5, .fz (.list ((rowsN T k).map rowD)), .fz (nD k), s8, s9, .un, .un, .un, .un, .un, .un, .un, .un, .un, .un]) (fun d ds ρ Ky hKy hJ => ?_) (fun ρ hJ => ?_) ⟨[], rowsN T k, .ow false (.lst []), s9, rfl, rfl, .inl rfl, rfl⟩
      · obtain ⟨A, B, s8, s9, e, hab, hs8, rfl⟩ := hJ
        cases B with
        | nil => cases e
        | cons r B =>
          cases e
          have hrl : r.length = k := rowsN_rowlen k r (by rw [hab]; simp)
          have hle : ((ext T A) ++ blockR T r).length ≤ 65536 := by
            have e1 : (rowsN T (k + 1)) = ext T A ++ (blockR T r ++ ext T B) := by
              show ext T (rowsN T k) = _
              rw [hab, ext_app]; rfl
            rw [e1] at hsm
            simp only [List.length_append] at hsm ⊢
            omega
          have hbl : (blockR T r).length = T.length := by simp [blockR]
          bv_omega
          refine w_varB (i := 8) hs8 ?_
          bv_omega
          refine w_nlc ?_
          bv_omega
          refine ⟨⟨by omega, by rw [List.length_map]; omega⟩, ?_⟩
          rw [List.length_map, Int.toNat_natCast, show rangeD 0 1 T.length = (List.range' 0 T.length).map nD from rangeD1 0 T.length]
          refine ⟨by rw [List.length_map, List.length_range']; omega, ?_⟩
          refine lcL_map (fun d => D.tuple (r.map nD ++ [d])) (fun d hd K hK => ?_) ?_
          · obtain ⟨x, hx, rfl⟩ := List.mem_map.mp hd
            bv_omega
            refine w_addT (big (by rw [List.length_map]; simp; omega)) ?_
            exact hK _ rfl
          · rw [List.nil_append, blk_map]
            bv_omega
            refine w_addL (big (by rw [← List.length_append, ← List.map_append, List.length_map]; omega)) ?_
            rw [← List.map_append]
            bv_omega
            refine hKy _ ⟨A ++ [r], B, _, _, rfl, by rw [hab]; simp, .inr ?_, rfl⟩
            rw [ext_app, ext_one]
            rfl
      · obtain ⟨A, B, s8, s9, e, hab, hs8, rfl⟩ := hJ
        cases B with
        | cons r B => cases e
        | nil =>
          have hA : A = rowsN T k := by rw [hab]; simp
          subst hA
          bv_omega
          refine w_varB (i := 8) hs8 ?_
          rw [show ext T (rowsN T k) = rowsN T (k + 1) from rfl]
          bv_omega
          refine w_varB (i := 5) hs5 ?_
          bv_omega
          refine w_addL (big (by rw [← List.length_append, ← List.map_append, List.length_map]; exact Nat.le_trans hup1 (by decide))) ?_
          rw [← List.map_append]
          bv_omega
          exact hK _ ⟨k + 1, j, _, _, _, _, _, rfl, by omega, .inr rfl, .inr rfl, rfl⟩
  · obtain ⟨k, j, s5, s6, s7, s8, s9, e, hkm, hs5, hs6, rfl⟩ := hI
    cases j with
    | succ j => cases e
    | zero =>
      have hk : k = loss := by omega
      subst hk
      bv_omega
      refine ⟨rfl, ?_⟩
      bv_omega
      refine w_ctN (sKey_of (a, [], 0)) ⟨by decide, ?_⟩
      bv_omega
      refine ⟨⟨by decide, by decide⟩, ?_⟩
      rw [show rangeD 0 1 ((900 : Int)).toNat = (List.range' 0 900).map nD from rangeD1 0 900]
      refine forL_go (I := fun ds ρ => ∃ (i j : Nat) (S : List Sight) (s5 s7 s9 s12 s13 s14 s15 s16 s17 s18 : Sl), ds = (List.range' i j).map nD ∧ i + j = 900 ∧ S.Nodup ∧ (∀ τ ∈ S, IsS T a L m τ) ∧ (a, [], 0) ∈ S ∧ (∀ x τ, x < i → S[x]? = some τ → Done T L k m S τ) ∧ Two s5 (.lst ((rowsUp T k).map rowD)) ∧
        ρ = [.fz (tabD T), .fz (nD a), .fz (nD L), .fz (nD k), .fz (nD m), s5, s6, s7, s8, s9, .ow false (.lst (S.map sD)), .ow false (.dctN (thD S)), s12, s13, s14, s15, s16, s17, s18, .un]) (fun d ds ρ Ky hKy hJ => ?_) (fun ρ hJ => ?_) ⟨0, 900, [(a, [], 0)], _, _, _, _, _, _, _, _, _, _, rfl, rfl, by simp, fun τ hτ => by rw [List.mem_singleton.mp hτ]; exact IsS.start, by simp, fun x τ hx _ => by omega, hs5, rfl⟩
      · obtain ⟨i, j, S, s5, s7, s9, s12, s13, s14, s15, s16, s17, s18, e, hij, nd, hS, h0, hdone, hs5, rfl⟩ := hJ
        cases j with
        | zero => cases e
        | succ j =>
          rw [List.range'_succ] at e
          cases e
          have hS9 := sights_few t ha h1 f nd hS
          bv_omega
          refine w_lenS rfl (by rw [List.length_map]; omega) ?_
          bv_omega
          rw [List.length_map]
          by_cases q : i < S.length
          · rw [decide_eq_true (show (i : Int) < (S.length : Int) by omega)]
            have hσ : S[i]? = some S[i] := by simp [q]
            obtain ⟨σ, hσ⟩ : ∃ σ, S[i]? = some σ := ⟨_, hσ⟩
            have hσm : σ ∈ S := List.mem_of_getElem? hσ
            have hσS := hS σ hσm
            have hσn := hσS.lt t ha
            obtain ⟨hσr, hσL⟩ := hσS.row
            bv_omega
            refine w_exA (atI_map S sD hσ) ?_
            bv_omega
            refine w_varB (i := 5) hs5 ?_
            bv_omega
            refine forL_go (I := fun ds ρ => ∃ (A B : List (List Nat)) (S' : List Sight) (E : List (NestedKey × D)) (s9 s16 s17 s18 : Sl), ds = B.map rowD ∧ rowsUp T k = A ++ B ∧ S'.Nodup ∧ (∀ τ ∈ S', IsS T a L m τ) ∧ (∃ X, S' = S ++ X) ∧ Ends T L m σ A E ∧ (∀ u ∈ A, u.length = 1 → sNext T L m σ (u.headD 0) ∈ S') ∧
              ρ = [.fz (tabD T), .fz (nD a), .fz (nD L), .fz (nD k), .fz (nD m), .fz (.list ((rowsUp T k).map rowD)), s6, .fz (nD i), s8, s9, .ow false (.lst (S'.map sD)), .ow false (.dctN (thD S')), .ow false (.dctN E), .fz (nD σ.1), .fz (rowD σ.2.1), .fz (nD σ.2.2), s16, s17, s18, .un]) (fun d ds ρ Kz hKz hZ => ?_) (fun ρ hZ => ?_) ⟨[], rowsUp T k, S, [], s9, s16, s17, s18, rfl, rfl, nd, hS, ⟨[], by simp⟩, Ends.nil, fun u hu => by simp at hu, rfl⟩
            · obtain ⟨A, B, S', E, s9, s16, s17, s18, e, hab, nd', hS', ⟨X, hX⟩, hE, hlat, rfl⟩ := hZ
              cases B with
              | nil => cases e
              | cons u B =>
                cases e
                have hum : u ∈ rowsUp T k := by rw [hab]; simp
                obtain ⟨hur, hul⟩ := (rowsUp_mem k).mp hum
                have hS9' := sights_few t ha h1 f nd' hS'
                have hAl : A.length ≤ 1000 := by rw [hab, List.length_append] at hup; omega
                have hElen := hE.len
                bv_omega
                refine w_addT (big (by rw [List.length_map, List.length_map]; omega)) ?_
                rw [← List.map_append]
                bv_omega
                rw [cut_last (w := σ.2.1 ++ u) (L := L) (by rw [List.length_map, List.length_map, List.length_append]; omega)]
                bv_omega
                refine w_dII (by omega) ?_
                rw [List.length_map, show ((σ.2.2 : Int) + (u.length : Int)) % (m : Int) = (((σ.2.2 + u.length) % m : Nat) : Int) by simp]
                bv_omega
                refine led_ok t hσn hur ?_
                bv_omega
                refine w_ctN (pKey_of (pg L m σ u)) ⟨by omega, ?_⟩
                -- what follows, the pages being told apart
                cases hv : dVal E (pKey (pg L m σ u)) with
                | some d0 =>
                  obtain ⟨v, hvA, hpv, rfl⟩ := hE.from_ _ _ hv
                  bv_omega
                  by_cases z : run T σ.1 v = run T σ.1 u
                  · rw [decide_eq_true (show ((run T σ.1 v : Nat) : Int) = ((run T σ.1 u : Nat) : Int) by omega)]
                    bv_omega
                    rw [List.length_map]
                    by_cases q1 : u.length = 1
                    · rw [decide_eq_true (show (u.length : Int) = 1 by omega)]
                      obtain ⟨x, rfl⟩ : ∃ x, u = [x] := by
                        match u, q1 with
                        | [x], _ => exact ⟨x, rfl⟩
                      have hx : x < T.length := hur x (by simp)
                      have hnx := hσS.next (L := L) (m := m) hx
                      bv_omega
                      refine w_ixT (atI_0 _ _) ?_
                      bv_omega
                      refine w_ixT (atI_1 _ _ _) ?_
                      bv_omega
                      refine w_ctN (sKey_of (sNext T L m σ x)) ?_
                      by_cases q2 : sNext T L m σ x ∈ S'
                      · rw [thD_some q2]
                        bv_omega
                        exact hKz _ ⟨A ++ [[x]], B, S', _, _, _, _, _, rfl, by rw [hab]; simp, nd', hS', ⟨X, hX⟩, hE.old (by rw [hv, z]), fun w hw hwl => by
                          rcases List.mem_append.mp hw with hw | hw
                          · exact hlat w hw hwl
                          · rw [List.mem_singleton.mp hw]; exact q2, rfl⟩
                      · have hth : (thD S').length = S'.length := List.length_map _
                        have hnone := thD_none q2
                        rw [hnone, Option.isSome_none]
                        bv_omega
                        refine w_ctN (sKey_of (sNext T L m σ x)) ⟨by omega, ?_⟩
                        rw [dVal_new hnone]
                        bv_omega
                        refine ⟨by rw [List.length_map]; omega, ?_⟩
                        refine hKz _ ⟨A ++ [[x]], B, S' ++ [sNext T L m σ x], _, .fz (rowD [x]), .fz (pD (pg L m σ [x])), .fz (nD (run T σ.1 [x])), .fz (sD (sNext T L m σ x)), rfl, by rw [hab]; simp, ?_, fun τ hτ => ?_, ⟨X ++ [sNext T L m σ x], by rw [hX, List.append_assoc]⟩, hE.old (by rw [hv, z]), fun w hw hwl => ?_, ?_⟩
                        · rw [List.nodup_append]
                          refine ⟨nd', by simp, fun p hp r hr => ?_⟩
                          rw [List.mem_singleton.mp hr]
                          exact fun z => q2 (by rw [← z]; exact hp)
                        · rcases List.mem_append.mp hτ with hτ | hτ
                          · exact hS' τ hτ
                          · rw [List.mem_singleton.mp hτ]; exact hnx
                        · rcases List.mem_append.mp hw with hw | hw
                          · exact List.mem_append_left _ (hlat w hw hwl)
                          · rw [List.mem_singleton.mp hw]; exact List.mem_append_right _ (List.mem_singleton.mpr rfl)
                        · rw [show thD (S' ++ [sNext T L m σ x]) = thD S' ++ [(sKey (sNext T L m σ x), D.bool true)] by unfold thD; rw [List.map_append]; rfl, List.map_append]
                          rfl
                    · rw [decide_eq_false (show ¬ (u.length : Int) = 1 by omega)]
                      bv_omega
                      exact hKz _ ⟨A ++ [u], B, S', _, _, _, _, _, rfl, by rw [hab]; simp, nd', hS', ⟨X, hX⟩, hE.old (by rw [hv, z]), fun w hw hwl => by
                        rcases List.mem_append.mp hw with hw | hw
                        · exact hlat w hw hwl
                        · rw [List.mem_singleton.mp hw] at hwl; exact absurd hwl q1, rfl⟩
                  · rw [decide_eq_false (show ¬ ((run T σ.1 v : Nat) : Int) = ((run T σ.1 u : Nat) : Int) by omega)]
                    bv_omega
                    exact h false ⟨fun z => (nomatch z), fun hR => absurd (right_cf.mp hR σ hσS v (by rw [hab]; exact List.mem_append_left _ hvA) u hum hpv) z⟩
                | none =>
                  bv_omega
                  rw [decide_eq_true (show ((run T σ.1 u : Nat) : Int) = ((run T σ.1 u : Nat) : Int) from rfl)]
                  bv_omega
                  rw [List.length_map]
                  by_cases q1 : u.length = 1
                  · rw [decide_eq_true (show (u.length : Int) = 1 by omega)]
                    obtain ⟨x, rfl⟩ : ∃ x, u = [x] := by
                      match u, q1 with
                      | [x], _ => exact ⟨x, rfl⟩
                    have hx : x < T.length := hur x (by simp)
                    have hnx := hσS.next (L := L) (m := m) hx
                    bv_omega
                    refine w_ixT (atI_0 _ _) ?_
                    bv_omega
                    refine w_ixT (atI_1 _ _ _) ?_
                    bv_omega
                    refine w_ctN (sKey_of (sNext T L m σ x)) ?_
                    by_cases q2 : sNext T L m σ x ∈ S'
                    · rw [thD_some q2]
                      bv_omega
                      exact hKz _ ⟨A ++ [[x]], B, S', _, _, _, _, _, rfl, by rw [hab]; simp, nd', hS', ⟨X, hX⟩, hE.new hv, fun w hw hwl => by
                        rcases List.mem_append.mp hw with hw | hw
                        · exact hlat w hw hwl
                        · rw [List.mem_singleton.mp hw]; exact q2, rfl⟩
                    · have hth : (thD S').length = S'.length := List.length_map _
                      have hnone := thD_none q2
                      rw [hnone, Option.isSome_none]
                      bv_omega
                      refine w_ctN (sKey_of (sNext T L m σ x)) ⟨by omega, ?_⟩
                      rw [dVal_new hnone]
                      bv_omega
                      refine ⟨by rw [List.length_map]; omega, ?_⟩
                      refine hKz _ ⟨A ++ [[x]], B, S' ++ [sNext T L m σ x], _, .fz (rowD [x]), .fz (pD (pg L m σ [x])), .fz (nD (run T σ.1 [x])), .fz (sD (sNext T L m σ x)), rfl, by rw [hab]; simp, ?_, fun τ hτ => ?_, ⟨X ++ [sNext T L m σ x], by rw [hX, List.append_assoc]⟩, hE.new hv, fun w hw hwl => ?_, ?_⟩
                      · rw [List.nodup_append]
                        refine ⟨nd', by simp, fun p hp r hr => ?_⟩
                        rw [List.mem_singleton.mp hr]
                        exact fun z => q2 (by rw [← z]; exact hp)
                      · rcases List.mem_append.mp hτ with hτ | hτ
                        · exact hS' τ hτ
                        · rw [List.mem_singleton.mp hτ]; exact hnx
                      · rcases List.mem_append.mp hw with hw | hw
                        · exact List.mem_append_left _ (hlat w hw hwl)
                        · rw [List.mem_singleton.mp hw]; exact List.mem_append_right _ (List.mem_singleton.mpr rfl)
                      · rw [show thD (S' ++ [sNext T L m σ x]) = thD S' ++ [(sKey (sNext T L m σ x), D.bool true)] by unfold thD; rw [List.map_append]; rfl, List.map_append]
                        rfl
                  · rw [decide_eq_false (show ¬ (u.length : Int) = 1 by omega)]
                    bv_omega
                    exact hKz _ ⟨A ++ [u], B, S', _, _, _, _, _, rfl, by rw [hab]; simp, nd', hS', ⟨X, hX⟩, hE.new hv, fun w hw hwl => by
                      rcases List.mem_append.mp hw with hw | hw
                      · exact hlat w hw hwl
                      · rw [List.mem_singleton.mp hw] at hwl; exact absurd hwl q1, rfl⟩
            · obtain ⟨A, B, S', E, s9, s16, s17, s18, e, hab, nd', hS', ⟨X, hX⟩, hE, hlat, rfl⟩ := hZ
              cases B with
              | cons u B => cases e
              | nil =>
                have hA : A = rowsUp T k := by rw [hab]; simp
                subst hA
                have hD : Done T L k m S' σ := ⟨hE.cf, hlat⟩
                refine hKy _ ⟨i + 1, j, S', _, _, _, _, _, _, _, _, _, _, rfl, by omega, nd', hS', by rw [hX]; exact List.mem_append_left _ h0, fun x τ hx hτ => ?_, .inr rfl, rfl⟩
                by_cases z : x = i
                · subst z
                  rw [hX, List.getElem?_append_left q, hσ] at hτ
                  cases hτ
                  exact hD
                · rw [hX, List.getElem?_append_left (by omega)] at hτ
                  obtain ⟨d1, d2⟩ := hdone x τ (by omega) hτ
                  exact ⟨d1, fun u hu hl => by rw [hX]; exact List.mem_append_left _ (d2 u hu hl)⟩
          · rw [decide_eq_false (show ¬ (i : Int) < (S.length : Int) by omega)]
            bv_omega
            refine hKy _ ⟨i + 1, j, S, _, _, _, _, _, _, _, _, _, _, rfl, by omega, nd, hS, h0, fun x τ hx hτ => ?_, hs5, rfl⟩
            by_cases z : x = i
            · subst z
              have := (List.getElem?_eq_some_iff.mp hτ).1
              exact absurd this q
            · exact hdone x τ (by omega) hτ
      · obtain ⟨i, j, S, s5, s7, s9, s12, s13, s14, s15, s16, s17, s18, e, hij, nd, hS, h0, hdone, hs5, rfl⟩ := hJ
        cases j with
        | succ j => cases e
        | zero =>
          have hS9 := sights_few t ha h1 f nd hS
          bv_omega
          refine w_lenS rfl (by rw [List.length_map]; omega) ?_
          bv_omega
          rw [List.length_map, decide_eq_true (show (S.length : Int) ≤ 900 by omega)]
          refine h true ⟨fun _ => right_done h0 fun σ hσ => ?_, fun _ => rfl⟩
          obtain ⟨x, hx⟩ := List.mem_iff_getElem?.mp hσ
          have := (List.getElem?_eq_some_iff.mp hx).1
          exact hdone x σ (by omega) hx
end
end DL.K18
set_option Elab.async false
set_option linter.all false
set_option maxRecDepth 100000
set_option maxHeartbeats 4000000
namespace DL.K18
open PySem L2 Evl DL
theorem shw_row {r : List Nat} (h : ∀ x ∈ r, x ≤ 9) : Shw (rowD r) 1 (r.length * 3 + 3) := by
  have := shw_tup (xs := r.map nD) (k := 0) (z := 1) fun x hx => by
    obtain ⟨y, hy, rfl⟩ := List.mem_map.mp hx
    exact shw_dig (h y hy)
  rw [List.length_map] at this
  exact this
theorem Row.dig {T : List (List Nat)} {n : Nat} (t : Tab T n) {r : List Nat} (h : Row T r) : ∀ x ∈ r, x ≤ 9 := fun x hx => by
  have h1 := h x hx
  have h2 := t.t4
  omega
theorem shw_pair {a b : D} {k z : Nat} (ha : Shw a k z) (hb : Shw b k z) : Shw (.tuple [a, b]) (k + 1) (2 * (z + 2) + 3) := shw_tup fun x hx => by
  rcases List.mem_cons.mp hx with rfl | hx
  · exact ha
  · rw [List.mem_singleton.mp hx]; exact hb

theorem isTy_tup {xs : List D} : isTy "tuple" (.tuple xs) = some true := by show subTy "tuple" "tuple" = some true; decide
theorem oft_ge {len k : Nat} (hl : len ≤ 12) (h1 : 1 ≤ k) (h8 : k ≤ 8) : len ≤ oft len k * k := by
  have : ∀ len, len < 13 → ∀ k, k < 9 → 1 ≤ k → len ≤ oft len k * k := by decide
  exact this len (by omega) k (by omega) h1
theorem oft_12 {len k : Nat} (hl : len ≤ 12) (h1 : 1 ≤ k) (h8 : k ≤ 8) : oft len k ≤ 12 := by
  have := oft_le hl h1 h8
  unfold oft
  omega
theorem cut_take {α : Type} (xs : List α) (g : α → D) (j : Nat) : cutD (xs.map g) none (some (j : Int)) = (xs.take j).map g := by
  unfold cutD
  rw [HT.sIx_nat, HT.sIx_none, List.drop_zero, Nat.sub_zero, ← List.map_take, List.length_map]
  by_cases q : j ≤ xs.length
  · rw [Nat.min_eq_left q]
  · rw [Nat.min_eq_right (by omega), List.take_of_length_le (Nat.le_refl _), List.take_of_length_le (by omega)]
section
variable {C : Addr} {XX : Exn → List Sl → Prop} {R : Rv → List Sl → Prop}
theorem law_wrong_right_ok {T : List (List Nat)} {n a loss m : Nat} {r : List Nat} (t : Tab T n) (ha : a < n) (hl : loss ≤ 8) (h1 : 1 ≤ m) (h9 : m ≤ 9) (z : paperO T a m (List.range' 1 loss) = some r) (h : R (.d (.bool true)) [.un, .un, .un, .un, .un]) : dc__law_wrong_right C [.fz (macD C T n), .fz (tabD T), .fz (nD a), .fz (nD loss), .fz (nD m)] XX R := by
  obtain ⟨p1, p2, p3, p4, p5, p6⟩ := paper_hold t ha z
  obtain ⟨hc, hr1⟩ := paper_circ t ha z
  refine di__law_wrong_right ?_
  unfold ds__law_wrong_right
  bv_omega
  refine ⟨⟨by decide, by decide⟩, ?_⟩
  rw [show rangeD 0 1 ((13 : Int)).toNat = (List.range' 0 13).map nD from rangeD1 0 13]
  refine forL_go (I := fun ds ρ => ∃ (k j : Nat) (s5 s6 s7 s8 : Sl), ds = (List.range' k j).map nD ∧ k + j = 13 ∧ ρ = [.fz (macD C T n), .fz (tabD T), .fz (nD a), .fz (nD loss), .fz (nD m), s5, s6, s7, s8]) (fun d ds ρ Kx hK hI => ?_) (fun ρ hI => ?_) ⟨0, 13, .un, .un, .un, .un, rfl, rfl, rfl⟩
  · obtain ⟨k, j, s5, s6, s7, s8, e, hkj, rfl⟩ := hI
    cases j with
    | zero => cases e
    | succ j =>
      rw [List.range'_succ] at e
      cases e
      have hk : k ≤ 12 := by omega
      have ho := oft_12 hk hr1 (show r.length ≤ 8 by omega)
      have hge := oft_ge hk hr1 (show r.length ≤ 8 by omega)
      have hrl : ((List.replicate (oft k r.length) r).flatten).length = oft k r.length * r.length := rep_len _ _
      have hle : oft k r.length * r.length ≤ 12 * 8 := Nat.mul_le_mul ho (by omega)
      have hol : (oneO T a k r).length = (aheadO T a r).length + oft k r.length * r.length := by
        unfold oneO; rw [List.length_append, hrl]
      have hor : Row T (oneO T a k r) := p1.app (p3.rep _)
      have h2r : Row T (oneO T a k r ++ r) := hor.app p3
      have sA := shw_row (Row.dig t hor)
      bv_omega
      refine turned_rows_ok t ha hl h1 h9 hk ?_
      rw [z, show rowsD T a k (some r) = .tuple [rowD (oneO T a k r), rowD (oneO T a k r ++ r)] from rfl]
      bv_omega
      refine w_ofS isTy_tup ?_
      bv_omega
      refine w_iteF' rfl ?_
      bv_omega
      rw [List.length_map, cut_take, List.take_left]
      refine w_eq ⟨ok_row _ _, ok_row _ _⟩ ?_
      rw [if_pos rfl, sA.deq]
      bv_omega
      rw [List.length_map, List.length_map, List.length_append, decide_eq_true (show (1 : Int) ≤ ((((oneO T a k r).length + r.length : Nat) : Int) - ((oneO T a k r).length : Int)) by omega)]
      bv_omega
      rw [decide_eq_true (show ((((oneO T a k r).length + r.length : Nat) : Int) - ((oneO T a k r).length : Int)) ≤ (loss : Int) by omega)]
      bv_omega
      rw [cut_last (w := oneO T a k r) (L := k) (by rw [List.length_map])]
      bv_omega
      rw [cut_last (w := oneO T a k r ++ r) (L := k) (by rw [List.length_map])]
      have hpg : lastN k (oneO T a k r) = lastN k (oneO T a k r ++ r) := page_rep hge
      have hlr : Row T (lastN k (oneO T a k r ++ r)) := fun x hx => h2r x (List.mem_of_mem_drop hx)
      rw [hpg]
      refine w_eq ⟨ok_row _ _, ok_row _ _⟩ ?_
      rw [if_pos rfl, (shw_row (Row.dig t hlr)).deq]
      bv_omega
      rw [List.length_map, decide_eq_false (show ¬ ((oneO T a k r).length : Int) < (k : Int) by omega)]
      bv_omega
      rw [List.length_map, List.length_map, List.length_append]
      refine w_dII (by omega) ?_
      bv_omega
      rw [decide_eq_true (show ((((oneO T a k r).length + r.length : Nat) : Int) - ((oneO T a k r).length : Int)) % (m : Int) = 0 by rw [show ((((oneO T a k r).length + r.length : Nat) : Int) - ((oneO T a k r).length : Int)) = (r.length : Int) by omega]; omega)]
      bv_omega
      refine led_ok t ha hor ?_
      bv_omega
      refine led_ok t ha h2r ?_
      bv_omega
      have hne : run T a (oneO T a k r) ≠ run T a (oneO T a k r ++ r) := by
        unfold oneO
        rw [List.append_assoc, run_two, run_two (aheadO T a r), run_two, run_rep]
        exact circ_ne hc _
      rw [decide_eq_false (show ¬ ((run T a (oneO T a k r) : Nat) : Int) = ((run T a (oneO T a k r ++ r) : Nat) : Int) by omega)]
      bv_omega
      exact hK _ ⟨k + 1, j, _, _, _, _, rfl, by omega, rfl⟩
  · obtain ⟨k, j, s5, s6, s7, s8, e, hkj, rfl⟩ := hI
    bv_omega
    exact h
end
end DL.K18
set_option Elab.async false
set_option linter.all false
set_option maxRecDepth 100000
set_option maxHeartbeats 4000000
namespace DL.K18
open PySem L2 Evl DL
theorem Tab.two {T : List (List Nat)} {n : Nat} (t : Tab T n) : Tab (T.take 2) n where
  n1 := t.n1
  n8 := t.n8
  t1 := by rw [List.length_take]; have := t.t1; omega
  t4 := by rw [List.length_take]; omega
  len := fun r hr => t.len r (List.mem_of_mem_take hr)
  lt := fun r hr => t.lt r (List.mem_of_mem_take hr)
theorem paper_any {T : List (List Nat)} {a m : Nat} : ∀ ks : List Nat, (paperO T a m ks).isSome = ks.any fun k => decide (k % m = 0) && (rowsN T k).any (hitO T a)
  | [] => rfl
  | k :: ks => by
    rw [List.any_cons]
    by_cases q : k % m = 0
    · rw [paper_cons q, paper_any ks, decide_eq_true q, Bool.true_and]
    · have e : paperO T a m (k :: ks) = paperO T a m ks := by
        conv => lhs; unfold paperO
        rw [if_neg q]
      rw [e, paper_any ks, decide_eq_false q, Bool.false_and, Bool.false_or]
theorem good_paper {T : List (List Nat)} {a m loss : Nat} : goodB (lensOf T a loss) m = !(paperO T a m (List.range' 1 loss)).isSome := by
  rw [paper_any]
  unfold goodB lensOf
  induction List.range' 1 loss with
  | nil => rfl
  | cons k ks ih =>
    rw [List.any_cons, List.filter_cons]
    by_cases z : (rowsN T k).any (hitO T a) = true
    · rw [if_pos z, List.all_cons, ih, z, Bool.and_true, Bool.not_or]
    · rw [if_neg z, ih]
      rw [Bool.not_eq_true] at z
      rw [z, Bool.and_false, Bool.false_or]
theorem in_good {L : List Nat} {m : Nat} (h1 : 1 ≤ m) (h9 : m ≤ 9) : decide ((m : Int) ∈ (goodL L).map fun x : Nat => (x : Int)) = goodB L m := by
  have : (m : Int) ∈ (goodL L).map (fun x : Nat => (x : Int)) ↔ goodB L m = true := by
    rw [List.mem_map]
    constructor
    · rintro ⟨x, hx, e⟩
      have : x = m := by omega
      subst this
      exact (List.mem_filter.mp hx).2
    · intro h
      exact ⟨m, List.mem_filter.mpr ⟨List.mem_range'_1.mpr ⟨h1, by omega⟩, h⟩, rfl⟩
  cases z : goodB L m with
  | true => exact decide_eq_true (this.mpr z)
  | false => exact decide_eq_false fun h => by rw [this.mp h] at z; cases z
theorem asInts_nat (L : List Nat) : asInts (L.map nD) = some (L.map fun x : Nat => (x : Int)) := by
  have := asInts_map (L.map fun x : Nat => (x : Int))
  rw [List.map_map] at this
  exact this
theorem shows_bools (a b : Bool) : D.shows (.list [.bool a, .bool b]) = true := by
  cases a <;> cases b <;> with_unfolding_all decide
theorem ok_bools (a b : Bool) : D.ok 60 (.str (D.py (.list [.bool a, .bool b])).shown) = true := by
  cases a <;> cases b <;> with_unfolding_all decide
theorem isNone_paper {T : List (List Nat)} {a : Nat} (o : Option (List Nat)) : isNoneD (paperD T a o) = !o.isSome := by cases o <;> rfl
/-- losses few enough -/
def Lim (T : List (List Nat)) (loss : Nat) : Prop := T.length = 1 ∧ loss ≤ 3 ∨ T.length = 2 ∧ loss ≤ 2
section
variable {C : Addr} {X : XP} {KK : D → Env → Prop} {ns : List D} {T : List (List Nat)} {n a k loss : Nat} {c : Ct} {s4 s5 s6 s9 s10 s11 s12 : Sl}
theorem loss_de (hb : Box c) (ht1 : 1 ≤ T.length) (ht2 : T.length ≤ 2) (h : ∀ loss c', Lim T loss → Box c' → KK (nD loss) [.fz (.rol ns), .fz (nD k), .ow false c', .fz (tabD T), s4, s5, s6, .fz (macD C T n), .fz (nD a), s9, s10, s11, s12]) :
    (eIf (bV (eOp dGt (eCall 2 (dc__law_take C) (aBor 2 (aCons (eC (.int 8)) aNil))) (eC (.int 0)))) (eOp dAdd (eC (.int 1)) (eCall 2 (dc__law_take C) (aBor 2 (aCons (eOp dIx (eLst (aCons (eC (.int 0)) (aCons (eC (.int 3)) (aCons (eC (.int 2)) aNil)))) (eB fLen (aCons (eVarF 3) aNil))) aNil)))) (eC (.int 0)))
      [.fz (.rol ns), .fz (nD k), .ow false c, .fz (tabD T), s4, s5, s6, .fz (macD C T n), .fz (nD a), s9, s10, s11, s12] X KK := by
  bv_omega
  refine take_ok (m := 8) hb (by decide) (by decide) fun go c4 hgo hb4 => ?_
  bv_omega
  by_cases q : (0 : Int) < (go : Int)
  · rw [decide_eq_true q]
    bv_omega
    obtain ⟨lm, hlm, hlm1, hlm9⟩ : ∃ lm : Nat, atI [D.int 0, D.int 3, D.int 2] ((T.map rowD).length : Int) = some (nD lm) ∧ 1 ≤ lm ∧ (T.length = 1 ∧ lm = 3 ∨ T.length = 2 ∧ lm = 2) := by
      rw [List.length_map]
      have : T.length = 1 ∨ T.length = 2 := by omega
      rcases this with q | q <;> rw [q]
      · exact ⟨3, rfl, by decide, .inl ⟨rfl, rfl⟩⟩
      · exact ⟨2, rfl, by decide, .inr ⟨rfl, rfl⟩⟩
    refine w_ixL hlm ?_
    bv_omega
    refine take_ok hb4 hlm1 (by omega) fun l c5 hl hb5 => ?_
    bv_omega
    rw [show (1 : Int) + (l : Int) = ((1 + l : Nat) : Int) by omega]
    exact h _ _ (by unfold Lim; omega) hb5
  · rw [decide_eq_false q]
    bv_omega
    exact h 0 _ (by unfold Lim; omega) hb4
theorem mod_de {r0 : List Nat} (hb : Box c) (a0 : atI (T.map rowD) ((0 : Nat) : Int) = some (rowD r0)) (hl0 : r0.length = n) (hn1 : 1 ≤ n) (hn4 : n ≤ 4) (h : ∀ m c', 1 ≤ m → m ≤ 9 → n * m ≤ 12 → Box c' → KK (nD m) [.fz (.rol ns), .fz (nD k), .ow false c', .fz (tabD T), s4, .fz (nD loss), s6, .fz (macD C T n), .fz (nD a), s9, s10, s11, s12]) :
    (eOp dAdd (eC (.int 1)) (eCall 2 (dc__law_take C) (aBor 2 (aCons (eIf (bV (eOp dLt (eB fLen (aCons (eOp dIx (eVarF 3) (eC (.int 0))) aNil)) (eC (.int 4)))) (eC (.int 4)) (eC (.int 2))) aNil))))
      [.fz (.rol ns), .fz (nD k), .ow false c, .fz (tabD T), s4, .fz (nD loss), s6, .fz (macD C T n), .fz (nD a), s9, s10, s11, s12] X KK := by
  bv_omega
  refine w_ixT a0 ?_
  bv_omega
  rw [List.length_map, hl0]
  have nm : ∀ m, (n < 4 ∧ m ≤ 4 ∨ n = 4 ∧ m ≤ 2) → n * m ≤ 12 := fun m hm => by
    rcases hm with ⟨h1, h2⟩ | ⟨h1, h2⟩
    · exact Nat.le_trans (Nat.mul_le_mul (show n ≤ 3 by omega) h2) (by decide)
    · exact Nat.le_trans (Nat.mul_le_mul (show n ≤ 4 by omega) h2) (by decide)
  by_cases q : n < 4
  · rw [decide_eq_true (show (n : Int) < 4 by omega)]
    bv_omega
    refine take_ok (m := 4) hb (by decide) (by decide) fun l c5 hl hb5 => ?_
    bv_omega
    rw [show (1 : Int) + (l : Int) = ((1 + l : Nat) : Int) by omega]
    exact h _ _ (by omega) (by omega) (nm _ (by omega)) hb5
  · rw [decide_eq_false (show ¬ (n : Int) < 4 by omega)]
    bv_omega
    refine take_ok (m := 2) hb (by decide) (by decide) fun l c5 hl hb5 => ?_
    bv_omega
    rw [show (1 : Int) + (l : Int) = ((1 + l : Nat) : Int) by omega]
    exact h _ _ (by omega) (by omega) (nm _ (by omega)) hb5
end
section
variable {C : Addr} {XX : Exn → List Sl → Prop} {R : Rv → List Sl → Prop}
theorem law_ok {ns : List Int} (hn : ns.length ≤ 1000) (h : R (.d (.bool true)) [.un]) : dc_law C [.fz (.rol (ns.map .int))] XX R := by
  refine di_law ?_
  unfold ds_law
  bv_omega
  refine ⟨⟨by decide, by decide⟩, ?_⟩
  rw [show rangeD 0 1 ((2 : Int)).toNat = (List.range' 0 2).map nD from rangeD1 0 2]
  refine forL_go (I := fun ds ρ => ∃ (k j : Nat) (s1 s2 s3 s4 s5 s6 s7 s8 s9 s10 s11 s12 : Sl), ds = (List.range' k j).map nD ∧ k + j = 2 ∧ ρ = [.fz (.rol (ns.map .int)), s1, s2, s3, s4, s5, s6, s7, s8, s9, s10, s11, s12]) (fun d ds ρ Kx hK hI => ?_) (fun ρ hI => ?_) ⟨0, 2, .un, .un, .un, .un, .un, .un, .un, .un, .un, .un, .un, .un, rfl, rfl, rfl⟩
  · obtain ⟨k, j, s1, s2, s3, s4, s5, s6, s7, s8, s9, s10, s11, s12, e, hkj, rfl⟩ := hI
    cases j with
    | zero => cases e
    | succ j =>
      rw [List.range'_succ] at e
      cases e
      bv_omega
      refine box_ok hn fun c hb => ?_
      bv_omega
      refine tables_ok (most := 4) hb (by decide) (by decide) fun T0 n0 c1 t0 hn0 hb1 => ?_
      bv_omega
      rw [show cutD (T0.map rowD) none (some (2 : Int)) = (T0.take 2).map rowD from cut_take T0 rowD 2]
      bv_omega
      refine ⟨⟨by decide, by decide⟩, ?_⟩
      rw [show rangeD 0 1 ((3 : Int)).toNat = (List.range' 0 3).map nD from rangeD1 0 3]
      refine forL_go (I := fun ds ρ => ∃ (i l : Nat) (T : List (List Nat)) (n : Nat) (c' : Ct) (s4 : Sl), ds = (List.range' i l).map nD ∧ Tab T n ∧ n ≤ 4 ∧ T.length ≤ 2 ∧ Box c' ∧ ρ = [.fz (.rol (ns.map .int)), .fz (nD k), .ow false c', .fz (tabD T), s4, s5, s6, s7, s8, s9, s10, s11, s12]) (fun d ds ρ Ky hKy hJ => ?_) (fun ρ hJ => ?_) ⟨0, 3, T0.take 2, n0, c1, s4, rfl, t0.two, hn0, by rw [List.length_take]; omega, hb1, rfl⟩
      · obtain ⟨i, l, T, n, c', s4, e, t, hn4, ht2, hb', rfl⟩ := hJ
        obtain ⟨r0, x0, hr0, _, _, hl0⟩ := t.at (d := 0) (s := 0) (by have := t.t1; omega) (by have := t.n1; omega)
        have a0 : atI (T.map rowD) ((0 : Nat) : Int) = some (rowD r0) := atI_map T rowD hr0
        cases l with
        | zero => cases e
        | succ l =>
          rw [List.range'_succ] at e
          cases e
          bv_omega
          refine w_ixT a0 ?_
          bv_omega
          rw [List.length_map, hl0]
          by_cases q : n = 1
          · rw [decide_eq_true (show (n : Int) = 1 by omega)]
            bv_omega
            refine tables_ok (most := 4) hb' (by decide) (by decide) fun T1 n1 c2 t1 hn1 hb2 => ?_
            bv_omega
            rw [show cutD (T1.map rowD) none (some (2 : Int)) = (T1.take 2).map rowD from cut_take T1 rowD 2]
            bv_omega
            exact hKy _ ⟨i + 1, l, T1.take 2, n1, c2, .fz (nD i), rfl, t1.two, hn1, by rw [List.length_take]; omega, hb2, rfl⟩
          · rw [decide_eq_false (show ¬ (n : Int) = 1 by omega)]
            bv_omega
            exact hKy _ ⟨i + 1, l, T, n, c', .fz (nD i), rfl, t, hn4, ht2, hb', rfl⟩
      · obtain ⟨i, l, T, n, c', s4, e, t, hn4, ht2, hb', rfl⟩ := hJ
        obtain ⟨r0, x0, hr0, _, _, hl0⟩ := t.at (d := 0) (s := 0) (by have := t.t1; omega) (by have := t.n1; omega)
        have a0 : atI (T.map rowD) ((0 : Nat) : Int) = some (rowD r0) := atI_map T rowD hr0
        have hn1 := t.n1
        have ht1 := t.t1
        bv_omega
        refine ⟨rfl, init_ok t ⟨rfl, ?_⟩⟩
        bv_omega
        refine w_ixT a0 ?_
        bv_omega
        refine take_ok hb' (by rw [List.length_map]; omega) (by rw [List.length_map]; omega) fun a c3 ha' hb3 => ?_
        rw [List.length_map, hl0] at ha'
        have ha : a < n := ha'
        bv_omega
        refine ⟨rfl, ?_⟩
        refine w_seq (w_asg (loss_de hb3 ht1 ht2 fun loss c4 hlim hb4 => ?_))
        refine w_gname ?_
        refine w_seq (w_asg (mod_de hb4 a0 hl0 hn1 hn4 fun m c5 h1 h9 hnm hb5 => ?_))
        refine w_gname ?_
        have hl3 : loss ≤ 3 := by unfold Lim at hlim; omega
        have hl8 : loss ≤ 8 := by omega
        bv_omega
        refine turn_paper_ok t ha hl8 h1 h9 ?_
        bv_omega
        refine law_goes_ok t ha hl8 h1 h9 ?_
        bv_omega
        refine ⟨rfl, ?_⟩
        bv_omega
        refine good_moduli_ok t ha hl8 ?_
        bv_omega
        refine w_ofS (asInts_nat _) ?_
        rw [in_good h1 h9, good_paper]
        bv_omega
        rw [isNone_paper, if_neg (show ¬ (false = true) by decide)]
        bv_omega
        refine w_repr (shows_bools _ _) ?_
        bv_omega
        refine w_repr (shows_bools _ _) ?_
        bv_omega
        refine w_eq ⟨ok_bools _ _, ok_bools _ _⟩ ?_
        rw [if_pos rfl, deq_str]
        bv_omega
        have c0 := Come.at t ha 8
        have l0 : Lot T n a (keysL (comeL T a)) := ⟨c0.nd, come_rch t ha⟩
        have hkn : (keysL (comeL T a)).length ≤ n := nodup_le l0.nd (l0.lt t ha)
        have hk1 : 1 ≤ (keysL (comeL T a)).length := List.length_pos_of_mem c0.st
        cases z : paperO T a m (List.range' 1 loss) with
        | none =>
          rw [Option.isSome_none]
          bv_omega
          refine law_come_ok t ha ?_
          bv_omega
          refine w_ixT (atI_1 _ _ _) ?_
          bv_omega
          refine w_mulI (.inl ⟨by omega, by omega⟩) ?_
          bv_omega
          rw [List.length_map, show max (loss : Int) ((loss : Int) * (((keysL (comeL T a)).length : Int) - 1)) = ((max loss (loss * ((keysL (comeL T a)).length - 1)) : Nat) : Int) by
            rw [show (((keysL (comeL T a)).length : Int) - 1) = (((keysL (comeL T a)).length - 1 : Nat) : Int) by omega, ← Int.natCast_mul]; omega]
          have hL : loss * ((keysL (comeL T a)).length - 1) ≤ loss * 3 := Nat.mul_le_mul_left _ (by omega)
          refine law_is_right_ok (L := max loss (loss * ((keysL (comeL T a)).length - 1))) t ha hl3 h1 h9 (by unfold Lim at hlim; omega) ⟨hnm, by unfold Lim at hlim; omega⟩ fun b hb => ?_
          have : b = true := hb.mpr (right_of t ha z (Nat.le_max_left _ _) (Nat.le_max_right _ _))
          subst this
          bv_omega
          exact hK _ ⟨k + 1, j, _, _, _, _, _, _, _, _, _, _, _, _, rfl, by omega, rfl⟩
        | some r =>
          rw [Option.isSome_some]
          bv_omega
          refine law_wrong_right_ok t ha hl8 h1 h9 z ?_
          bv_omega
          refine take_ok (m := 6) hb5 (by decide) (by decide) fun len c6 hlen hb6 => ?_
          bv_omega
          refine law_is_right_ok (L := len) t ha hl3 h1 h9 (by omega) ⟨hnm, by omega⟩ fun b hb => ?_
          have : b = false := by
            cases b with
            | false => rfl
            | true => exact absurd (hb.mp rfl) (wrong_of t ha z)
          subst this
          bv_omega
          exact hK _ ⟨k + 1, j, _, _, _, _, _, _, _, _, _, _, _, _, rfl, by omega, rfl⟩
  · obtain ⟨k, j, s1, s2, s3, s4, s5, s6, s7, s8, s9, s10, s11, s12, e, hkj, rfl⟩ := hI
    bv_omega
    exact h
end
end DL.K18
set_option Elab.async false
set_option linter.all false
set_option maxRecDepth 100000
set_option maxHeartbeats 0
namespace DL.K18
open PySem PySem.Spec PyProof.Rows L2 DL
def d_is_integer : He.DefD := ⟨("is_integer", none), "is_integer", "is_integer", defArgs s_is_integer, defBody s_is_integer, defScope s_is_integer, [], []⟩
def d_is_number : He.DefD := ⟨("is_number", none), "is_number", "is_number", defArgs s_is_number, defBody s_is_number, defScope s_is_number, [], []⟩
def d_is_below : He.DefD := ⟨("is_below", none), "is_below", "is_below", defArgs s_is_below, defBody s_is_below, defScope s_is_below, [], []⟩
def d_is_within : He.DefD := ⟨("is_within", none), "is_within", "is_within", defArgs s_is_within, defBody s_is_within, defScope s_is_within, [], []⟩
def d_is_sequence : He.DefD := ⟨("is_sequence", none), "is_sequence", "is_sequence", defArgs s_is_sequence, defBody s_is_sequence, defScope s_is_sequence, [], []⟩
def d_is_table : He.DefD := ⟨("is_table", none), "is_table", "is_table", defArgs s_is_table, defBody s_is_table, defScope s_is_table, [], []⟩
def d_check_tables : He.DefD := ⟨("check_tables", none), "check_tables", "check_tables", defArgs s_check_tables, defBody s_check_tables, defScope s_check_tables, [], []⟩
def d_need_state : He.DefD := ⟨("need_state", none), "need_state", "need_state", defArgs s_need_state, defBody s_need_state, defScope s_need_state, [], []⟩
def d_reached : He.DefD := ⟨("reached", none), "reached", "reached", defArgs s_reached, defBody s_reached, defScope s_reached, [], []⟩
def d_is_within_loss : He.DefD := ⟨("is_within_loss", none), "is_within_loss", "is_within_loss", defArgs s_is_within_loss, defBody s_is_within_loss, defScope s_is_within_loss, [], []⟩
def d_need_loss : He.DefD := ⟨("need_loss", none), "need_loss", "need_loss", defArgs s_need_loss, defBody s_need_loss, defScope s_need_loss, [], []⟩
def d_need_modulus : He.DefD := ⟨("need_modulus", none), "need_modulus", "need_modulus", defArgs s_need_modulus, defBody s_need_modulus, defScope s_need_modulus, [], []⟩
def d_longer_doings : He.DefD := ⟨("longer_doings", none), "longer_doings", "longer_doings", defArgs s_longer_doings, defBody s_longer_doings, defScope s_longer_doings, [], []⟩
def d_turned_states : He.DefD := ⟨("turned_states", none), "turned_states", "turned_states", defArgs s_turned_states, defBody s_turned_states, defScope s_turned_states, [], []⟩
def d_turning_lengths : He.DefD := ⟨("turning_lengths", none), "turning_lengths", "turning_lengths", defArgs s_turning_lengths, defBody s_turning_lengths, defScope s_turning_lengths, [], []⟩
def d_first_rows : He.DefD := ⟨("first_rows", none), "first_rows", "first_rows", defArgs s_first_rows, defBody s_first_rows, defScope s_first_rows, [], []⟩
def d_row_ahead : He.DefD := ⟨("row_ahead", none), "row_ahead", "row_ahead", defArgs s_row_ahead, defBody s_row_ahead, defScope s_row_ahead, [], []⟩
def d_need_turning : He.DefD := ⟨("need_turning", none), "need_turning", "need_turning", defArgs s_need_turning, defBody s_need_turning, defScope s_need_turning, [], []⟩
def d_turn_paper : He.DefD := ⟨("turn_paper", none), "turn_paper", "turn_paper", defArgs s_turn_paper, defBody s_turn_paper, defScope s_turn_paper, [.int 1], []⟩
def d_turned_rows : He.DefD := ⟨("turned_rows", none), "turned_rows", "turned_rows", defArgs s_turned_rows, defBody s_turned_rows, defScope s_turned_rows, [.int 1], []⟩
def d_good_moduli : He.DefD := ⟨("good_moduli", none), "good_moduli", "good_moduli", defArgs s_good_moduli, defBody s_good_moduli, defScope s_good_moduli, [], []⟩
def d__law_box : He.DefD := ⟨("_law_box", none), "_law_box", "_law_box", defArgs s__law_box, defBody s__law_box, defScope s__law_box, [], []⟩
def d__law_take : He.DefD := ⟨("_law_take", none), "_law_take", "_law_take", defArgs s__law_take, defBody s__law_take, defScope s__law_take, [], []⟩
def d__law_pick : He.DefD := ⟨("_law_pick", none), "_law_pick", "_law_pick", defArgs s__law_pick, defBody s__law_pick, defScope s__law_pick, [], []⟩
def d__law_tables : He.DefD := ⟨("_law_tables", none), "_law_tables", "_law_tables", defArgs s__law_tables, defBody s__law_tables, defScope s__law_tables, [], []⟩
def d__law_led : He.DefD := ⟨("_law_led", none), "_law_led", "_law_led", defArgs s__law_led, defBody s__law_led, defScope s__law_led, [], []⟩
def d__law_rounds : He.DefD := ⟨("_law_rounds", none), "_law_rounds", "_law_rounds", defArgs s__law_rounds, defBody s__law_rounds, defScope s__law_rounds, [], []⟩
def d__law_come : He.DefD := ⟨("_law_come", none), "_law_come", "_law_come", defArgs s__law_come, defBody s__law_come, defScope s__law_come, [], []⟩
def d__law_is_right : He.DefD := ⟨("_law_is_right", none), "_law_is_right", "_law_is_right", defArgs s__law_is_right, defBody s__law_is_right, defScope s__law_is_right, [], []⟩
def d__law_goes : He.DefD := ⟨("_law_goes", none), "_law_goes", "_law_goes", defArgs s__law_goes, defBody s__law_goes, defScope s__law_goes, [], []⟩
def d__law_wrong_right : He.DefD := ⟨("_law_wrong_right", none), "_law_wrong_right", "_law_wrong_right", defArgs s__law_wrong_right, defBody s__law_wrong_right, defScope s__law_wrong_right, [], []⟩
def d_Machine___init__ : He.DefD := ⟨("Machine", some "__init__"), "__init__", "Machine.__init__", defArgs s_Machine___init__, defBody s_Machine___init__, defScope s_Machine___init__, [], []⟩
def d_law : He.DefD := ⟨("law", none), "law", "law", defArgs s_law, defBody s_law, defScope s_law, [], []⟩
def fnL0 : List He.DefD := [d_is_integer, d_is_number, d_is_below, d_is_within, d_is_sequence, d_is_table, d_check_tables, d_need_state, d_reached, d_is_within_loss, d_need_loss, d_need_modulus, d_longer_doings, d_turned_states, d_turning_lengths, d_first_rows, d_row_ahead, d_need_turning, d_turn_paper, d_turned_rows, d_good_moduli, d__law_box, d__law_take, d__law_pick, d__law_tables, d__law_led, d__law_rounds, d__law_come, d__law_is_right, d__law_goes]
def fnL1 : List He.DefD := [d__law_wrong_right, d_Machine___init__, d_law]
def fnL : List He.DefD := fnL0 ++ fnL1
def faL0 : List He.Fa := [.free "abs", .free "all", .free "any", .free "bool", .free "enumerate", .free "int", .free "isinstance", .free "len", .free "list", .free "max", .free "min", .free "range", .free "repr", .free "sorted", .free "tuple", .free "zip", .int "MOST_DEEDS" 4, .int "MOST_LENGTH" 12, .int "MOST_LOSS" 8, .int "MOST_MODULUS" 9, .int "MOST_STATES" 8, .str "TURN" "turn", .glo "is_integer", .glo "is_number", .glo "is_below", .glo "is_within", .glo "is_sequence", .glo "is_table", .glo "check_tables", .glo "need_state"]
def faL1 : List He.Fa := [.glo "reached", .glo "is_within_loss", .glo "need_loss", .glo "need_modulus", .glo "longer_doings", .glo "turned_states", .glo "turning_lengths", .glo "first_rows", .glo "row_ahead", .glo "need_turning", .glo "turn_paper", .glo "turned_rows", .glo "good_moduli", .glo "_law_box", .glo "_law_take", .glo "_law_pick", .glo "_law_tables", .glo "_law_led", .glo "_law_rounds", .glo "_law_come", .glo "_law_is_right", .glo "_law_goes", .glo "_law_wrong_right", .glo "law", .glo "Machine", .cls "Machine", .noat "Machine" "tables", .noat "Machine" "deeds", .noat "Machine" "states", .mkr "Machine"]
def faL : List He.Fa := faL0 ++ faL1
def looseL0 : List Str := ["PageError", "BadMachine", "Refused", "NoState", "MOST_DEEDS", "MOST_STATES", "MOST_LENGTH", "MOST_LOSS", "MOST_MODULUS", "is_integer", "is_number", "is_below", "is_within", "is_sequence", "is_table", "check_tables", "Machine", "need_state", "reached", "need_loss", "is_within_loss", "need_modulus", "TURN", "longer_doings", "turned_states", "turning_lengths", "first_rows", "row_ahead", "need_turning", "turn_paper"]
def looseL1 : List Str := ["turned_rows", "good_moduli", "_law_box", "_law_take", "_law_pick", "_law_tables", "_law_led", "_law_rounds", "_law_come", "_law_is_right", "_law_goes", "_law_wrong_right"]
def looseL : List Str := looseL0 ++ looseL1
abbrev rowL : PySem.W.OpenLaw := PySem.Challenge.rw_pagesagain_k18_whole_rounds_against_all
abbrev rowR : PySem.W.OpenRow := PySem.W.OpenLaw.row rowL
abbrev hkL : PySem.W.Hook := He.hookD 5 faL fnL
def obL (s : PySem.W.SharedT) : He.AlD := He.obsDG 5 faL fnL (HandSHeadRun.getT s)
theorem obL_eq (s : PySem.W.SharedT) : obL s = hkL.obs s.abs := He.obsDG_eq (HandSHeadRun.getT_eq s)
theorem runL (w : World) : HandSHeadRun.RunEq rowR (PySem.W.view rowR.prog [48]) hkL obL 3000 looseL w := by
  intro os
  kernel_rfl
theorem factsL {K : PySem.W.Frag} {h : Heap} {mg : Str → Option Value} (X : K.In h) (Gm : h.Ns mainGlobals mg) (c : He.SaysD faL fnL K) : ∃ Γ : G K mg (He.ga K "Machine"), Γ.f_law = He.ga K "law" := by
  obtain ⟨t_MOST_DEEDS, e_MOST_DEEDS⟩ := He.int_ok X Gm (c.fact 16 (f := .int "MOST_DEEDS" 4) rfl)
  obtain ⟨t_MOST_LENGTH, e_MOST_LENGTH⟩ := He.int_ok X Gm (c.fact 17 (f := .int "MOST_LENGTH" 12) rfl)
  obtain ⟨t_MOST_LOSS, e_MOST_LOSS⟩ := He.int_ok X Gm (c.fact 18 (f := .int "MOST_LOSS" 8) rfl)
  obtain ⟨t_MOST_MODULUS, e_MOST_MODULUS⟩ := He.int_ok X Gm (c.fact 19 (f := .int "MOST_MODULUS" 9) rfl)
  obtain ⟨t_MOST_STATES, e_MOST_STATES⟩ := He.int_ok X Gm (c.fact 20 (f := .int "MOST_STATES" 8) rfl)
  obtain ⟨t_TURN, e_TURN⟩ := He.str_ok X Gm (c.fact 21 (f := .str "TURN" "turn") rfl)
  obtain ⟨fd0, F0⟩ := c.def_ 0 (d := d_is_integer) rfl
  obtain ⟨fd1, F1⟩ := c.def_ 1 (d := d_is_number) rfl
  obtain ⟨fd2, F2⟩ := c.def_ 2 (d := d_is_below) rfl
  obtain ⟨fd3, F3⟩ := c.def_ 3 (d := d_is_within) rfl
  obtain ⟨fd4, F4⟩ := c.def_ 4 (d := d_is_sequence) rfl
  obtain ⟨fd5, F5⟩ := c.def_ 5 (d := d_is_table) rfl
  obtain ⟨fd6, F6⟩ := c.def_ 6 (d := d_check_tables) rfl
  obtain ⟨fd7, F7⟩ := c.def_ 7 (d := d_need_state) rfl
  obtain ⟨fd8, F8⟩ := c.def_ 8 (d := d_reached) rfl
  obtain ⟨fd9, F9⟩ := c.def_ 9 (d := d_is_within_loss) rfl
  obtain ⟨fd10, F10⟩ := c.def_ 10 (d := d_need_loss) rfl
  obtain ⟨fd11, F11⟩ := c.def_ 11 (d := d_need_modulus) rfl
  obtain ⟨fd12, F12⟩ := c.def_ 12 (d := d_longer_doings) rfl
  obtain ⟨fd13, F13⟩ := c.def_ 13 (d := d_turned_states) rfl
  obtain ⟨fd14, F14⟩ := c.def_ 14 (d := d_turning_lengths) rfl
  obtain ⟨fd15, F15⟩ := c.def_ 15 (d := d_first_rows) rfl
  obtain ⟨fd16, F16⟩ := c.def_ 16 (d := d_row_ahead) rfl
  obtain ⟨fd17, F17⟩ := c.def_ 17 (d := d_need_turning) rfl
  obtain ⟨fd18, F18⟩ := c.def_ 18 (d := d_turn_paper) rfl
  obtain ⟨fd19, F19⟩ := c.def_ 19 (d := d_turned_rows) rfl
  obtain ⟨fd20, F20⟩ := c.def_ 20 (d := d_good_moduli) rfl
  obtain ⟨fd21, F21⟩ := c.def_ 21 (d := d__law_box) rfl
  obtain ⟨fd22, F22⟩ := c.def_ 22 (d := d__law_take) rfl
  obtain ⟨fd23, F23⟩ := c.def_ 23 (d := d__law_pick) rfl
  obtain ⟨fd24, F24⟩ := c.def_ 24 (d := d__law_tables) rfl
  obtain ⟨fd25, F25⟩ := c.def_ 25 (d := d__law_led) rfl
  obtain ⟨fd26, F26⟩ := c.def_ 26 (d := d__law_rounds) rfl
  obtain ⟨fd27, F27⟩ := c.def_ 27 (d := d__law_come) rfl
  obtain ⟨fd28, F28⟩ := c.def_ 28 (d := d__law_is_right) rfl
  obtain ⟨fd29, F29⟩ := c.def_ 29 (d := d__law_goes) rfl
  obtain ⟨fd30, F30⟩ := c.def_ 30 (d := d__law_wrong_right) rfl
  obtain ⟨fd31, F31⟩ := c.def_ 31 (d := d_Machine___init__) rfl
  obtain ⟨fd32, F32⟩ := c.def_ 32 (d := d_law) rfl
  exact ⟨{
    b_abs := He.free_ok X Gm (c.fact 0 rfl)
    b_all := He.free_ok X Gm (c.fact 1 rfl)
    b_any := He.free_ok X Gm (c.fact 2 rfl)
    b_bool := He.free_ok X Gm (c.fact 3 rfl)
    b_enumerate := He.free_ok X Gm (c.fact 4 rfl)
    b_int := He.free_ok X Gm (c.fact 5 rfl)
    b_isinstance := He.free_ok X Gm (c.fact 6 rfl)
    b_len := He.free_ok X Gm (c.fact 7 rfl)
    b_list := He.free_ok X Gm (c.fact 8 rfl)
    b_max := He.free_ok X Gm (c.fact 9 rfl)
    b_min := He.free_ok X Gm (c.fact 10 rfl)
    b_range := He.free_ok X Gm (c.fact 11 rfl)
    b_repr := He.free_ok X Gm (c.fact 12 rfl)
    b_sorted := He.free_ok X Gm (c.fact 13 rfl)
    b_tuple := He.free_ok X Gm (c.fact 14 rfl)
    b_zip := He.free_ok X Gm (c.fact 15 rfl)
    u_MOST_DEEDS := .int 4 t_MOST_DEEDS
    g_MOST_DEEDS := ⟨e_MOST_DEEDS, t_MOST_DEEDS, rfl⟩
    u_MOST_LENGTH := .int 12 t_MOST_LENGTH
    g_MOST_LENGTH := ⟨e_MOST_LENGTH, t_MOST_LENGTH, rfl⟩
    u_MOST_LOSS := .int 8 t_MOST_LOSS
    g_MOST_LOSS := ⟨e_MOST_LOSS, t_MOST_LOSS, rfl⟩
    u_MOST_MODULUS := .int 9 t_MOST_MODULUS
    g_MOST_MODULUS := ⟨e_MOST_MODULUS, t_MOST_MODULUS, rfl⟩
    u_MOST_STATES := .int 8 t_MOST_STATES
    g_MOST_STATES := ⟨e_MOST_STATES, t_MOST_STATES, rfl⟩
    u_TURN := .str "turn" t_TURN
    g_TURN := ⟨e_TURN, t_TURN, rfl⟩
    f_is_integer := He.fAd K ("is_integer", none)
    fd_is_integer := fd0
    F_is_integer := F0
    m_is_integer := He.glo_ok X Gm (c.fact 22 (f := .glo "is_integer") rfl)
    f_is_number := He.fAd K ("is_number", none)
    fd_is_number := fd1
    F_is_number := F1
    m_is_number := He.glo_ok X Gm (c.fact 23 (f := .glo "is_number") rfl)
    f_is_below := He.fAd K ("is_below", none)
    fd_is_below := fd2
    F_is_below := F2
    m_is_below := He.glo_ok X Gm (c.fact 24 (f := .glo "is_below") rfl)
    f_is_within := He.fAd K ("is_within", none)
    fd_is_within := fd3
    F_is_within := F3
    m_is_within := He.glo_ok X Gm (c.fact 25 (f := .glo "is_within") rfl)
    f_is_sequence := He.fAd K ("is_sequence", none)
    fd_is_sequence := fd4
    F_is_sequence := F4
    m_is_sequence := He.glo_ok X Gm (c.fact 26 (f := .glo "is_sequence") rfl)
    f_is_table := He.fAd K ("is_table", none)
    fd_is_table := fd5
    F_is_table := F5
    m_is_table := He.glo_ok X Gm (c.fact 27 (f := .glo "is_table") rfl)
    f_check_tables := He.fAd K ("check_tables", none)
    fd_check_tables := fd6
    F_check_tables := F6
    m_check_tables := He.glo_ok X Gm (c.fact 28 (f := .glo "check_tables") rfl)
    f_need_state := He.fAd K ("need_state", none)
    fd_need_state := fd7
    F_need_state := F7
    m_need_state := He.glo_ok X Gm (c.fact 29 (f := .glo "need_state") rfl)
    f_reached := He.fAd K ("reached", none)
    fd_reached := fd8
    F_reached := F8
    m_reached := He.glo_ok X Gm (c.fact 30 (f := .glo "reached") rfl)
    f_is_within_loss := He.fAd K ("is_within_loss", none)
    fd_is_within_loss := fd9
    F_is_within_loss := F9
    m_is_within_loss := He.glo_ok X Gm (c.fact 31 (f := .glo "is_within_loss") rfl)
    f_need_loss := He.fAd K ("need_loss", none)
    fd_need_loss := fd10
    F_need_loss := F10
    m_need_loss := He.glo_ok X Gm (c.fact 32 (f := .glo "need_loss") rfl)
    f_need_modulus := He.fAd K ("need_modulus", none)
    fd_need_modulus := fd11
    F_need_modulus := F11
    m_need_modulus := He.glo_ok X Gm (c.fact 33 (f := .glo "need_modulus") rfl)
    f_longer_doings := He.fAd K ("longer_doings", none)
    fd_longer_doings := fd12
    F_longer_doings := F12
    m_longer_doings := He.glo_ok X Gm (c.fact 34 (f := .glo "longer_doings") rfl)
    f_turned_states := He.fAd K ("turned_states", none)
    fd_turned_states := fd13
    F_turned_states := F13
    m_turned_states := He.glo_ok X Gm (c.fact 35 (f := .glo "turned_states") rfl)
    f_turning_lengths := He.fAd K ("turning_lengths", none)
    fd_turning_lengths := fd14
    F_turning_lengths := F14
    m_turning_lengths := He.glo_ok X Gm (c.fact 36 (f := .glo "turning_lengths") rfl)
    f_first_rows := He.fAd K ("first_rows", none)
    fd_first_rows := fd15
    F_first_rows := F15
    m_first_rows := He.glo_ok X Gm (c.fact 37 (f := .glo "first_rows") rfl)
    f_row_ahead := He.fAd K ("row_ahead", none)
    fd_row_ahead := fd16
    F_row_ahead := F16
    m_row_ahead := He.glo_ok X Gm (c.fact 38 (f := .glo "row_ahead") rfl)
    f_need_turning := He.fAd K ("need_turning", none)
    fd_need_turning := fd17
    F_need_turning := F17
    m_need_turning := He.glo_ok X Gm (c.fact 39 (f := .glo "need_turning") rfl)
    f_turn_paper := He.fAd K ("turn_paper", none)
    fd_turn_paper := fd18
    F_turn_paper := F18
    m_turn_paper := He.glo_ok X Gm (c.fact 40 (f := .glo "turn_paper") rfl)
    f_turned_rows := He.fAd K ("turned_rows", none)
    fd_turned_rows := fd19
    F_turned_rows := F19
    m_turned_rows := He.glo_ok X Gm (c.fact 41 (f := .glo "turned_rows") rfl)
    f_good_moduli := He.fAd K ("good_moduli", none)
    fd_good_moduli := fd20
    F_good_moduli := F20
    m_good_moduli := He.glo_ok X Gm (c.fact 42 (f := .glo "good_moduli") rfl)
    f__law_box := He.fAd K ("_law_box", none)
    fd__law_box := fd21
    F__law_box := F21
    m__law_box := He.glo_ok X Gm (c.fact 43 (f := .glo "_law_box") rfl)
    f__law_take := He.fAd K ("_law_take", none)
    fd__law_take := fd22
    F__law_take := F22
    m__law_take := He.glo_ok X Gm (c.fact 44 (f := .glo "_law_take") rfl)
    f__law_pick := He.fAd K ("_law_pick", none)
    fd__law_pick := fd23
    F__law_pick := F23
    m__law_pick := He.glo_ok X Gm (c.fact 45 (f := .glo "_law_pick") rfl)
    f__law_tables := He.fAd K ("_law_tables", none)
    fd__law_tables := fd24
    F__law_tables := F24
    m__law_tables := He.glo_ok X Gm (c.fact 46 (f := .glo "_law_tables") rfl)
    f__law_led := He.fAd K ("_law_led", none)
    fd__law_led := fd25
    F__law_led := F25
    m__law_led := He.glo_ok X Gm (c.fact 47 (f := .glo "_law_led") rfl)
    f__law_rounds := He.fAd K ("_law_rounds", none)
    fd__law_rounds := fd26
    F__law_rounds := F26
    m__law_rounds := He.glo_ok X Gm (c.fact 48 (f := .glo "_law_rounds") rfl)
    f__law_come := He.fAd K ("_law_come", none)
    fd__law_come := fd27
    F__law_come := F27
    m__law_come := He.glo_ok X Gm (c.fact 49 (f := .glo "_law_come") rfl)
    f__law_is_right := He.fAd K ("_law_is_right", none)
    fd__law_is_right := fd28
    F__law_is_right := F28
    m__law_is_right := He.glo_ok X Gm (c.fact 50 (f := .glo "_law_is_right") rfl)
    f__law_goes := He.fAd K ("_law_goes", none)
    fd__law_goes := fd29
    F__law_goes := F29
    m__law_goes := He.glo_ok X Gm (c.fact 51 (f := .glo "_law_goes") rfl)
    f__law_wrong_right := He.fAd K ("_law_wrong_right", none)
    fd__law_wrong_right := fd30
    F__law_wrong_right := F30
    m__law_wrong_right := He.glo_ok X Gm (c.fact 52 (f := .glo "_law_wrong_right") rfl)
    f_Machine___init__ := He.fAd K ("Machine", some "__init__")
    fd_Machine___init__ := fd31
    F_Machine___init__ := F31
    f_law := He.fAd K ("law", none)
    fd_law := fd32
    F_law := F32
    m_law := He.glo_ok X Gm (c.fact 53 (f := .glo "law") rfl)
    mc_Machine := He.glo_ok X Gm (c.fact 54 (f := .glo "Machine") rfl)
    cls_Machine := He.cls_ok (c.fact 55 (f := .cls "Machine") rfl)
    na_Machine_tables := He.noat_ok (c.fact 56 (f := .noat "Machine" "tables") rfl)
    na_Machine_deeds := He.noat_ok (c.fact 57 (f := .noat "Machine" "deeds") rfl)
    na_Machine_states := He.noat_ok (c.fact 58 (f := .noat "Machine" "states") rfl)
    mk_Machine := He.mkr_ok (c.fact 59 (f := .mkr "Machine") rfl) }, rfl⟩
end DL.K18
open PySem PySem.W PySem.Calls PyProof.Rows in
theorem PySem.Challenge.cw_pagesagain_k18_whole_rounds_against_all_holds : PySem.Challenge.rw_pagesagain_k18_whole_rounds_against_all.Holds := by
  w_on; o_law
  refine HandSHeadRun.head_any (r := DL.K18.rowR) (q := view DL.K18.rowR.prog [48]) (H := DL.K18.hkL) (ob := DL.K18.obL) (M := 3000) (loose := DL.K18.looseL) (d := HandSHeadRun.topDef DL.K18.rowR.prog 48) (kwd := []) DL.K18.obL_eq
    (by kernel_rfl) (fun s => by kernel_rfl) DL.K18.runL (by kernel_rfl) (by kernel_rfl) (by kernel_rfl) (by rfl) (by first | assumption | decide +kernel) (by decide +kernel) ⟨rfl, rfl, rfl, rfl, rfl, by decide +kernel⟩ ?hw ?hc
  case hw => w_witness2
  case hc =>
    refine DL.walk_ofG (l := DL.K18.rowL) (n := 63) (k := 9) (x := "script") (CX := fun w => L2.CX DL.K18.rowL.prog w) rfl (by decide) (by kernel_rfl) ⟨rfl, by decide, by decide⟩ ?F (fun w H s e s' ⟨_, _, _, _, _, _, _, _, _, _, _, _, z⟩ => z)
    intro w mg fa h Y Gm hmg0
    obtain ⟨K, KX, c⟩ := Y
    have hmg : mg ("law" : PySem.Str) = some (.ref fa) := by
      have e : (HandSHeadRun.topDef DL.K18.rowR.prog 48).name = ("law" : PySem.Str) := by kernel_rfl
      rw [← e]
      exact hmg0
    obtain ⟨Γ, hΓ⟩ := DL.K18.factsL KX Gm c
    have e := hmg.symm.trans Γ.m_law
    cases e
    refine ⟨K, Γ.fd_law, DL.spD K 1 (DL.K18.dc_law (He.ga K "Machine")), KX, fun s u => ?_, fun H a ns hl _ hS => DL.spD_law hS (DL.K18.law_ok (Nat.le_trans hl (by decide)) rfl) DL.K18.dm_law, fun base h1 h2 => ?_⟩
    · exact (L2.FunD.bindsA (ps := ["script"]) Γ.F_law fun _ _ _ _ _ _ us hl => match us, hl with | [_], _ => rfl) s [u] rfl
    · exact DL.K18.ok_law Γ
