import PyProof.Rows.All
import Wide.All
import OpenK.AllK
import Wide.FinOn
import HandS.ForMost
import HandS.Star
import HandS.IsInst
import HandS.Wide
import HandS.Zip
import HandS.Conv
import PyProof.ReprRoads
import KE.KDictKeyed
import KE.KeyNested
import KE.KDictWalk
import KE.DataMinMax
import HandS.SetFor
import HandS.Strs
import HandS.SortInts
import HandS.Property
import HandS.SlotsOwn
import HandS.TupSets
import HandS.TupAny
import HandS.TupMul
import HandS.Style
import KE.SortData
import PyProof.Rows.RowBridgeK
import PyProof.Transfer
import HandS.Iter
import KE.KDictPairs
import KE.KOpsOwn
import HandS.Deep
import KE.KUnpackStar
import PyProof.RulesMatchSeq
import PyProof.Rows.MatchSeqLen
import PyProof.P3In
import HandS.ExcOwn
import HandS.TryOnly
import HandS.Lambda
import PyProof.ExcBaseAll.ValueError
import HandS.OwnEq
import HandS.ExcInit
import HandS.ExcField
import KE.KExcSuper
import KE.IntBitsLaws
import HandS.TupLe
import HandS.NoneIn
import HandS.SetBool
import KE.RegKSuper
import PySem.Challenge.RW_gridtraces_k47_stuck_cycles_of_small_net
set_option Elab.async false
set_option linter.all false
set_option maxRecDepth 100000
set_option maxHeartbeats 4000000

/-! part Dk0 -/
namespace Dy
open PySem PySem.Spec PyProof.Rows L2
def notStar : Expr → Bool
  | .Starred _ _ => false
  | _ => true
/-- an argument without a star, whatever it is -/
theorem st_any {e : Expr} {es : List Expr} {env : Env} (h : notStar e = true) : starEach (e :: es) env = (false, eval e env) :: starEach es env := by
  cases e <;> first | rfl | cases h
end Dy
namespace Dk
open PySem PySem.Spec PyProof.Rows L2
/-! values that are keys -/
mutual
inductive NK (K : PySem.W.Frag) (H : Hp) : V → NestedKey → Prop
  | non : NK K H .non .none
  | bl (b : Bool) : NK K H (.bl b) (.num (if b = true then 1 else 0))
  | int (i : Int) : NK K H (.int i) (.num i)
  | str (x : Str) : NK K H (.str x) (.text x)
  | tup {a : Addr} {xs : List V} {ks : List NestedKey} : SqT K H a xs → NKs K H xs ks → NK K H (.ref a) (.tup ks)
inductive NKs (K : PySem.W.Frag) (H : Hp) : List V → List NestedKey → Prop
  | nil : NKs K H [] []
  | cons {x : V} {k : NestedKey} {xs : List V} {ks : List NestedKey} : NK K H x k → NKs K H xs ks → NKs K H (x :: xs) (k :: ks)
end
section
variable {X : Cx} {pins : List (Addr × Obj)} {σ : L2.St} {H : Hp} {s : Shared}
mutual
theorem nk_is (I : L2.Inv X pins σ H s) : ∀ {v : V} {k : NestedKey} {u : Value}, NK X.K H v k → RelV v u → NestedIs s.heap k u
  | _, _, _, .non, r => by cases r; exact .none
  | _, _, _, .bl b, r => by cases r; exact .bool rfl
  | _, _, _, .int i, r => by
    obtain ⟨t, rfl⟩ := r
    exact .int i t
  | _, _, _, .str x, r => by
    obtain ⟨t, rfl⟩ := r
    exact .text x t
  | _, _, u, .tup (a := a) q ks, r => by
    obtain ⟨its, rv, ⟨o, e, hc, n, hd⟩, _⟩ := I.tuple q
    obtain rfl : u = Value.ref a := r
    exact .tup e hc hd (by simpa using nks_is I ks rv)
theorem nks_is (I : L2.Inv X pins σ H s) : ∀ {vs : List V} {ks : List NestedKey} {us : List Value}, NKs X.K H vs ks → Vals vs us → NestedAll s.heap ks us
  | _, _, _, .nil, r => by cases r; exact .nil
  | _, _, _, .cons a b, r => by
    cases r with
    | cons p q => exact .cons (nk_is I a p) (nks_is I b q)
end
end
end Dk
namespace Dk
open PySem PySem.Spec PyProof.Rows L2
/-! dicts whose keys are tuples (nested), where it is known which tuples -/
/-- what is told of an entry: the key's object, the key, the value -/
abbrev En := Addr × NestedKey × V
inductive Ents : List En → List (NestedKey × Addr × Value) → Prop
  | nil : Ents [] []
  | cons {a : Addr} {k : NestedKey} {v : V} {u : Value} {M : List En} {xs : List (NestedKey × Addr × Value)} : RelV v u → Ents M xs → Ents ((a, k, v) :: M) ((k, a, u) :: xs)
theorem Ents.len {M : List En} {xs : List (NestedKey × Addr × Value)} (h : Ents M xs) : xs.length = M.length := by
  induction h with
  | nil => rfl
  | cons _ _ ih => rw [List.length_cons, List.length_cons, ih]
theorem Ents.keys {M : List En} {xs : List (NestedKey × Addr × Value)} (h : Ents M xs) : xs.map (·.1) = M.map (·.2.1) := by
  induction h with
  | nil => rfl
  | cons _ _ ih => rw [List.map_cons, List.map_cons, ih]
theorem Ents.mem {M : List En} {xs : List (NestedKey × Addr × Value)} (h : Ents M xs) {x : NestedKey × Addr × Value} (hx : x ∈ xs) : ∃ y ∈ M, y.1 = x.2.1 ∧ y.2.1 = x.1 ∧ RelV y.2.2 x.2.2 := by
  induction h with
  | nil => cases hx
  | cons r _ ih =>
    rcases List.mem_cons.mp hx with e | hx
    · rw [e]
      exact ⟨_, List.mem_cons_self, rfl, rfl, r⟩
    · obtain ⟨y, hy, q⟩ := ih hx
      exact ⟨y, List.mem_cons_of_mem _ hy, q⟩
theorem Ents.at_ {M : List En} {xs : List (NestedKey × Addr × Value)} (h : Ents M xs) : ∀ {i : Nat} {y : En}, M[i]? = some y → ∃ u, xs[i]? = some (y.2.1, y.1, u) ∧ RelV y.2.2 u := by
  induction h with
  | nil => intro i y e; simp at e
  | cons r _ ih =>
    intro i y e
    cases i with
    | zero =>
      cases e
      exact ⟨_, rfl, r⟩
    | succ i => exact ih (i := i) (y := y) (by simpa using e)
/-- the value under a key -/
def look (M : List En) (k : NestedKey) : Option V := (M.find? fun y => decide (y.2.1 = k)).map (·.2.2)
theorem Ents.look {M : List En} {xs : List (NestedKey × Addr × Value)} (h : Ents M xs) (k : NestedKey) : match Dk.look M k with
    | some v => ∃ p, atKey xs k = some p ∧ RelV v p.2
    | none => atKey xs k = none := by
  induction h with
  | nil => rfl
  | @cons a k0 v u M xs r _ ih =>
    unfold Dk.look atKey at ih ⊢
    by_cases e : k0 = k
    · rw [List.find?_cons_of_pos (by simp [e]), List.find?_cons_of_pos (by simp [e])]
      exact ⟨_, rfl, r⟩
    · rw [List.find?_cons_of_neg (by simp [e]), List.find?_cons_of_neg (by simp [e])]
      exact ih
def has (M : List En) (k : NestedKey) : Bool := (look M k).isSome
theorem Ents.has {M : List En} {xs : List (NestedKey × Addr × Value)} (h : Ents M xs) (k : NestedKey) : (atKey xs k).isSome = Dk.has M k := by
  have z := h.look k
  unfold Dk.has
  cases e : Dk.look M k with
  | none =>
    rw [e] at z
    rw [show atKey xs k = none from z]
    rfl
  | some v =>
    rw [e] at z
    obtain ⟨p, hp, _⟩ := z
    rw [hp]
    rfl
/-- d[k] = v, the key's object a -/
def put1 (k : NestedKey) (v : V) (y : En) : En := if y.2.1 = k then (y.1, y.2.1, v) else y
def put (M : List En) (a : Addr) (k : NestedKey) (v : V) : List En := if has M k = true then M.map (put1 k v) else M ++ [(a, k, v)]
theorem Ents.app {M N : List En} {xs ys : List (NestedKey × Addr × Value)} (h : Ents M xs) (g : Ents N ys) : Ents (M ++ N) (xs ++ ys) := by
  induction h with
  | nil => exact g
  | cons r _ ih => exact .cons r ih
theorem Ents.put1 {M : List En} {xs : List (NestedKey × Addr × Value)} (h : Ents M xs) {k : NestedKey} {v : V} {u : Value} (r : RelV v u) : Ents (M.map (Dk.put1 k v)) (xs.map (putAt k u)) := by
  induction h with
  | nil => exact .nil
  | @cons a k0 v0 u0 M xs r0 _ ih =>
    rw [List.map_cons, List.map_cons]
    unfold Dk.put1 putAt
    dsimp only
    split
    · exact .cons r ih
    · exact .cons r0 ih
theorem Ents.put {M : List En} {xs : List (NestedKey × Addr × Value)} (h : Ents M xs) {a : Addr} {k : NestedKey} {v : V} {u : Value} (r : RelV v u) : Ents (Dk.put M a k v) (storedH xs k a u) := by
  unfold Dk.put storedH
  rw [h.has k]
  split
  · exact h.put1 r
  · exact h.app (.cons r .nil)
theorem put_len (M : List En) (a : Addr) (k : NestedKey) (v : V) : (put M a k v).length ≤ M.length + 1 := by
  unfold put
  split
  · rw [List.length_map]
    exact Nat.le_succ _
  · rw [List.length_append]
    exact Nat.le_refl _
theorem put_mem {M : List En} {a : Addr} {k : NestedKey} {v : V} {y : En} (h : y ∈ put M a k v) : (∃ z ∈ M, z.1 = y.1 ∧ z.2.1 = y.2.1) ∨ (y.1 = a ∧ y.2.1 = k) := by
  unfold put at h
  split at h
  · obtain ⟨z, hz, rfl⟩ := List.mem_map.mp h
    refine .inl ⟨z, hz, ?_⟩
    unfold put1
    split
    · exact ⟨rfl, rfl⟩
    · exact ⟨rfl, rfl⟩
  · rcases List.mem_append.mp h with h | h
    · exact .inl ⟨y, h, rfl, rfl⟩
    · rw [List.mem_singleton.mp h]
      exact .inr ⟨rfl, rfl⟩
/-- such a dict, by its object alone -/
def DtF (hf : NestedKey → Int) (p : Addr) (M : List En) (h : Heap) : Prop := (p == sysModules) = false ∧ M.length ≤ sizeLine ∧
  ∃ xs, Ents M xs ∧ (xs.map (·.1)).Nodup ∧ ∃ o es ep, h.get? p = some o ∧ o.ExactDict ∧ o.data = .dict es ep ∧ es.toList = xs.map fun x => (⟨hf x.1, .ref x.2.1, x.2.2⟩ : DictEntry)
def DtO (hf : NestedKey → Int) (p : Addr) (M : List En) : HO := .ext (DtF hf p M)
/-- the keys' objects are tuples with that content -/
def KeysOk (K : PySem.W.Frag) (H : Hp) (M : List En) : Prop := ∀ y ∈ M, NK K H (.ref y.1) y.2.1 ∧ y.2.1.depth ≤ 8
theorem dt_ok {P : Program} {w : World} {H : Hp} {h : Heap} {hf : NestedKey → Int} {p : Addr} {M : List En} (R : DtF hf p M h) : ObjOk P w H h p (DtO hf p M) := by
  refine ⟨R, ?_, fun h1 h2 q k => ?_⟩
  · obtain ⟨_, _, xs, _, _, o, es, ep, e, _⟩ := R
    exact ⟨o, e⟩
  · obtain ⟨a, b, xs, c, d, o, es, ep, e, f⟩ := q
    exact ⟨a, b, xs, c, d, o, es, ep, k o e, f⟩
section
variable {X : Cx} {pins : List (Addr × Obj)} {σ : L2.St} {H : Hp} {s : Shared} {p : Addr} {M : List En}
abbrev hW (X : Cx) : NestedKey → Int := NestedKey.hash X.w
theorem dt_open (I : L2.Inv X pins σ H s) (R : DtF (hW X) p M s.heap) (hk : KeysOk X.K H M) : ∃ xs, Ents M xs ∧ s.heap.DictOfH (nestedKind X.prog X.w) p xs := by
  obtain ⟨_, _, xs, c, d, o, es, ep, e, f, g, h⟩ := R
  refine ⟨xs, c, o, es, ep, e, f, g, h, fun x hx => ?_, d⟩
  obtain ⟨y, hy, e1, e2, _⟩ := c.mem hx
  have z := hk y hy
  rw [← e1, ← e2]
  exact ⟨nk_is I z.1 rfl, z.2⟩
theorem dt_close {h : Heap} {xs : List (NestedKey × Addr × Value)} (hs : (p == sysModules) = false) (hl : M.length ≤ sizeLine) (c : Ents M xs) (D : h.DictOfH (nestedKind X.prog X.w) p xs) : DtF (hW X) p M h := by
  obtain ⟨o, es, ep, e, f, g, h, _, d⟩ := D
  exact ⟨hs, hl, xs, c, d, o, es, ep, e, f, g, h⟩
theorem room_in1 (hu : X.A.units + 64 < cLine) : (nestedKind X.prog X.w).room X.A.in1 := by
  show X.A.units + 1 + 8 < cLine
  omega
theorem dt_get {a : Addr} {k : NestedKey} {v : V} {Q : VK} (hu : X.A.units + 64 < cLine) (I : L2.Inv X pins σ H s) (R : DtF (hW X) p M s.heap) (hk : KeysOk X.K H M) (ha : NK X.K H (.ref a) k) (hd : k.depth ≤ 8) (hv : look M k = some v) (q : Q v H) :
    wpAny (model X.prog X.w) X.A (getItem (.ref p) (.ref a)) (EP X pins σ Q) X.xe s := by
  obtain ⟨xs, c, D⟩ := dt_open I R hk
  have z := c.look k
  rw [hv] at z
  obtain ⟨y, hy, r⟩ := z
  exact wpAny_getItem_heap (room_in1 hu) ⟨nk_is I ha rfl, hd⟩ D hy ⟨v, H, I.tok _, r, q⟩
theorem dt_get2 {a : Addr} {k : NestedKey} {v : V} {u : Value} {Q : VK} (hu : X.A.units + 64 < cLine) (I : L2.Inv X pins σ H s) (R : DtF (hW X) p M s.heap) (hk : KeysOk X.K H M) (ha : NK X.K H (.ref a) k) (hd : k.depth ≤ 8) (r : RelV v u) (q : Q ((look M k).getD v) H) :
    wpAny (model X.prog X.w) X.A (call (.builtin "dict.get") [.ref p, .ref a, u]) (EP X pins σ Q) X.xe s := by
  obtain ⟨xs, c, D⟩ := dt_open I R hk
  refine call_meetsIn F.slot_dict_get D.typeIs F.entry_dict_get (F.args_dict_get_3 _ _ _) (meetsH_dict_get_default (nestedKind X.prog X.w) p a R.1 u) ⟨room_in1 hu, k, xs, ⟨nk_is I ha rfl, hd⟩, D, ?_⟩
  refine ⟨_, H, I.tok _, ?_, q⟩
  have z := c.look k
  cases e : look M k with
  | none =>
    rw [e] at z
    rw [z]
    exact r
  | some w =>
    rw [e] at z
    obtain ⟨y, hy, r2⟩ := z
    rw [hy]
    exact r2
theorem dt_set {a : Addr} {k : NestedKey} {v : V} {u : Value} {Q : Hp → Prop} (hu : X.A.units + 64 < cLine) (I : L2.Inv X pins σ H s) (hp : H p = some (DtO (hW X) p M)) (hk : KeysOk X.K H M) (ha : NK X.K H (.ref a) k) (hd : k.depth ≤ 8) (r : RelV v u) (hz : M.length + 1 ≤ sizeLine)
    (q : Q (upd H p (DtO (hW X) p (put M a k v)))) : wpAny (model X.prog X.w) X.A (setItem (.ref p) (.ref a) u) (fun _ s' => ∃ H', L2.Inv X pins σ H' s' ∧ Q H') X.xe s := by
  have R : DtF (hW X) p M s.heap := (I.hok p _ hp).1
  obtain ⟨xs, c, D⟩ := dt_open I R hk
  refine wpAny_setItem_heap (hsz := by rw [c.len]; omega) (room_in1 hu) ⟨nk_is I ha rfl, hd⟩ D fun h' D' sb => ⟨_, ?_, q⟩
  have R' : DtF (hW X) p (put M a k v) h' := dt_close R.1 (Nat.le_trans (put_len M a k v) hz) (c.put r) D'
  have he : ∃ o, h'.get? p = some o := by
    obtain ⟨_, _, _, _, _, o, _, _, e, _⟩ := R'
    exact ⟨o, e⟩
  exact I.write (e := p) (by rw [hp]; trivial) (.inl rfl) (fun b o nb e => (sb.2 b nb).trans e) he (dt_ok R')
/-- {} -/
theorem pe_new {pos : Pos} : PE X (.Dict [] [] pos) (fun _ H Q => ∀ p, H p = none → Q (.ref p) (upd H p (DtO (hW X) p []))) := ⟨fun pins s σ H Q I h =>
  wpAny_Dict_empty ⟨.ref s.heap.objs.size, _, I.laid (t' := s.toks) (fun _ _ e => Heap.get?_push_of_some _ e) (Nat.le_refl _) (dt_ok ⟨by
    exact beq_eq_false_iff_ne.mpr (Ne.symm (Nat.ne_of_lt I.big)), Nat.zero_le _, [], .nil, List.nodup_nil, _, #[], 0, Heap.get?_push_size _ rfl, ⟨rfl, rfl, rfl⟩, rfl, rfl⟩), rfl, h _ (I.hok.fresh (Nat.le_refl _))⟩⟩
end
end Dk

/-! part Ly1 -/
namespace Dy
open PySem PySem.Spec PyProof.Rows L2

/-! data: what a value stands for -/
inductive D where
  | non | bl (b : Bool) | int (i : Int) | str (x : Str) | lst (ds : List D) | tup (ds : List D) | rol (ds : List D) | obj (C : Addr) (ns : List Str) (ds : List D) | at_ (p : Addr) | emp | dct (hf : NestedKey → Int) (ks vs : List D) | dii (es : List (Int × Int))

end Dy
namespace Bs
open PySem PySem.Spec PyProof.Rows L2 Dy
/-- the key that data is -/
def kD : D → NestedKey
  | .int i => .num i
  | .tup ds => .tup (kDs ds)
  | _ => .none
where kDs : List D → List NestedKey
  | [] => []
  | d :: ds => kD d :: kDs ds
end Bs
namespace Dy
open PySem PySem.Spec PyProof.Rows L2
/-- what is told of the entries of a dict -/
abbrev entA (M : List Dk.En) : List V := M.map fun y => V.ref y.1
abbrev entV (M : List Dk.En) : List V := M.map fun y => y.2.2
/-- the entries of a dict from ints to ints -/
abbrev dkE (es : List (Int × Int)) : List (Key × V) := es.map fun y => (.inl y.1, V.int y.2)
abbrev entK (M : List Dk.En) : List NestedKey := M.map fun y => y.2.1

mutual
inductive Is (K : PySem.W.Frag) (R : Hp) : V → D → Prop
  | non : Is K R .non .non
  | bl (b : Bool) : Is K R (.bl b) (.bl b)
  | int (i : Int) : Is K R (.int i) (.int i)
  | str (x : Str) : Is K R (.str x) (.str x)
  | lst {a : Addr} {xs : List V} {ds : List D} : R a = some (.lst xs) → IsA K R xs ds → Is K R (.ref a) (.lst ds)
  | rol {a : Addr} {xs : List V} {ds : List D} : SqL K R a xs → IsA K R xs ds → Is K R (.ref a) (.rol ds)
  | tup {a : Addr} {xs : List V} {ds : List D} : SqT K R a xs → IsA K R xs ds → Is K R (.ref a) (.tup ds)
  | obj {a C dx : Addr} {fs : List (Str × V)} {ns : List Str} {ds : List D} : R a = some (.ins C dx fs) → fs.map (·.1) = ns → IsA K R (fs.map (·.2)) ds → Is K R (.ref a) (.obj C ns ds)
  | at_ (p : Addr) : Is K R (.ref p) (.at_ p)
  | emp {a : Addr} : R a = some (.dK []) → Is K R (.ref a) .emp
  | dct {hf : NestedKey → Int} {a : Addr} {o : Obj} {M : List Dk.En} {ks vs : List D} : R a = some (.frz o (Dk.DtO hf a M)) → IsA K R (entA M) ks → IsA K R (entV M) vs → entK M = ks.map Bs.kD → Is K R (.ref a) (.dct hf ks vs)
  | dii {a : Addr} {es : List (Int × Int)} : R a = some (.dK (dkE es)) → Is K R (.ref a) (.dii es)
inductive IsA (K : PySem.W.Frag) (R : Hp) : List V → List D → Prop
  | nil : IsA K R [] []
  | cons {v : V} {vs : List V} {d : D} {ds : List D} : Is K R v d → IsA K R vs ds → IsA K R (v :: vs) (d :: ds)
end

theorem same_rd {R H : Hp} {a : Addr} {u : HO} (e : Same R H) (h : Rd R a u) : Rd H a u := by
  rcases h with h | ⟨o, h⟩
  · exact .inl (e _ _ h)
  · exact .inr ⟨o, e _ _ h⟩
theorem same_sqT {K : PySem.W.Frag} {R H : Hp} {a : Addr} {xs : List V} (e : Same R H) (h : SqT K R a xs) : SqT K H a xs := by
  rcases h with h | h
  · exact .inl (same_rd e h)
  · exact .inr h
theorem same_sqL {K : PySem.W.Frag} {R H : Hp} {a : Addr} {xs : List V} (e : Same R H) (h : SqL K R a xs) : SqL K H a xs := e.seq h

mutual
theorem Is.mono {K : PySem.W.Frag} {R R2 : Hp} (e : Same R R2) : ∀ {v : V} {d : D}, Is K R v d → Is K R2 v d
  | _, _, .non => .non
  | _, _, .bl b => .bl b
  | _, _, .int i => .int i
  | _, _, .str x => .str x
  | _, _, .lst h a => .lst (e _ _ h) (IsA.mono e a)
  | _, _, .rol h a => .rol (same_sqL e h) (IsA.mono e a)
  | _, _, .tup h a => .tup (same_sqT e h) (IsA.mono e a)
  | _, _, .obj h n a => .obj (e _ _ h) n (IsA.mono e a)
  | _, _, .at_ p => .at_ p
  | _, _, .emp h => .emp (e _ _ h)
  | _, _, .dct h a b c => .dct (e _ _ h) (IsA.mono e a) (IsA.mono e b) c
  | _, _, .dii h => .dii (e _ _ h)
theorem IsA.mono {K : PySem.W.Frag} {R R2 : Hp} (e : Same R R2) : ∀ {vs : List V} {ds : List D}, IsA K R vs ds → IsA K R2 vs ds
  | _, _, .nil => .nil
  | _, _, .cons h t => .cons (Is.mono e h) (IsA.mono e t)
end
theorem IsA.len {K : PySem.W.Frag} {R : Hp} : ∀ {vs : List V} {ds : List D}, IsA K R vs ds → vs.length = ds.length
  | _, _, .nil => rfl
  | _, _, .cons _ t => congrArg Nat.succ (IsA.len t)
theorem IsA.get {K : PySem.W.Frag} {R : Hp} : ∀ {vs : List V} {ds : List D} {i : Nat} {d : D}, IsA K R vs ds → ds[i]? = some d → ∃ v, vs[i]? = some v ∧ Is K R v d
  | _, _, _, _, .nil, e => by simp at e
  | _, _, 0, _, .cons h _, e => by simp at e; subst e; exact ⟨_, rfl, h⟩
  | _, _, i + 1, d, .cons _ t, e => by
    obtain ⟨v, h1, h2⟩ := IsA.get (i := i) (d := d) t (by simpa using e)
    exact ⟨v, by simpa using h1, h2⟩
theorem IsA.app {K : PySem.W.Frag} {R : Hp} : ∀ {vs ws : List V} {ds es : List D}, IsA K R vs ds → IsA K R ws es → IsA K R (vs ++ ws) (ds ++ es)
  | _, _, _, _, .nil, b => b
  | _, _, _, _, .cons h t, b => .cons h (IsA.app t b)
theorem IsA.set {K : PySem.W.Frag} {R : Hp} {v : V} {d : D} (h : Is K R v d) : ∀ {vs : List V} {ds : List D} (i : Nat), IsA K R vs ds → IsA K R (vs.set i v) (ds.set i d)
  | _, _, _, .nil => .nil
  | _, _, 0, .cons _ t => .cons h t
  | _, _, i + 1, .cons q t => .cons q (IsA.set h i t)
theorem IsA.take {K : PySem.W.Frag} {R : Hp} : ∀ {vs : List V} {ds : List D} (n : Nat), IsA K R vs ds → IsA K R (vs.take n) (ds.take n)
  | _, _, 0, _ => .nil
  | _, _, _ + 1, .nil => .nil
  | _, _, n + 1, .cons h t => .cons h (IsA.take n t)
theorem IsA.drop {K : PySem.W.Frag} {R : Hp} : ∀ {vs : List V} {ds : List D} (n : Nat), IsA K R vs ds → IsA K R (vs.drop n) (ds.drop n)
  | _, _, 0, h => h
  | _, _, _ + 1, .nil => .nil
  | _, _, n + 1, .cons _ t => IsA.drop n t
theorem isA_ints {K : PySem.W.Frag} {R : Hp} : ∀ ns : List Int, IsA K R (ns.map V.int) (ns.map D.int)
  | [] => .nil
  | n :: ns => .cons (.int n) (isA_ints ns)
theorem IsA.ints {K : PySem.W.Frag} {R : Hp} : ∀ {vs : List V} {ns : List Int}, IsA K R vs (ns.map D.int) → vs = ns.map V.int
  | _, [], h => by cases h; rfl
  | _, n :: ns, h => by
    cases h with
    | cons a b =>
      cases a
      rw [IsA.ints b]
      rfl
theorem IsA.bls {K : PySem.W.Frag} {R : Hp} : ∀ {vs : List V} {ns : List Bool}, IsA K R vs (ns.map D.bl) → vs = ns.map V.bl
  | _, [], h => by cases h; rfl
  | _, n :: ns, h => by
    cases h with
    | cons a b =>
      cases a
      rw [IsA.bls b]
      rfl

/-! slots and states -/
inductive Sl where
  | no | dat (d : D) | own (p : Addr) (ds : List D) | odc (hf : NestedKey → Int) (p : Addr) (ks vs : List D)

def SlOk (K : PySem.W.Frag) (F R H : Hp) (x : Option (Option V)) : Sl → Prop
  | .no => True
  | .dat d => ∃ v, x = some (some v) ∧ Is K R v d
  | .own p ds => x = some (some (.ref p)) ∧ F p = none ∧ R p = none ∧ ∃ xs, H p = some (.lst xs) ∧ IsA K R xs ds
  | .odc hf p ks vs => x = some (some (.ref p)) ∧ F p = none ∧ R p = none ∧ ∃ M, H p = some (Dk.DtO hf p M) ∧ IsA K R (entA M) ks ∧ IsA K R (entV M) vs ∧ entK M = ks.map Bs.kD
/-- no dict stands in two slots -/
def Ap2 (δ : List Sl) : Prop := ∀ (i j : Nat) (p : Addr) (hf hf' : NestedKey → Int) (ks vs ks' vs' : List D), δ[i]? = some (.odc hf p ks vs) → δ[j]? = some (.odc hf' p ks' vs') → i = j
theorem Ap2.set {δ : List Sl} (h : Ap2 δ) {i : Nat} {s : Sl} (hs : ∀ (p : Addr) (hf : NestedKey → Int) (ks vs : List D), s = .odc hf p ks vs → ∃ hf' ks' vs', δ[i]? = some (.odc hf' p ks' vs')) : Ap2 (δ.set i s) := by
  have f : ∀ {m : Nat} {p : Addr} {hf : NestedKey → Int} {ks vs : List D}, (δ.set i s)[m]? = some (.odc hf p ks vs) → ∃ hf' ks' vs', δ[m]? = some (.odc hf' p ks' vs') := fun {m p hf ks vs} e => by
    by_cases hm : m = i
    · subst hm
      by_cases hl : m < δ.length
      · rw [List.getElem?_set_self hl] at e
        exact hs p hf ks vs (Option.some.inj e)
      · rw [List.getElem?_eq_none (by rw [List.length_set]; omega)] at e
        cases e
    · rw [List.getElem?_set_ne (Ne.symm hm)] at e
      exact ⟨_, _, _, e⟩
  intro a b p hf hf' ks vs ks' vs' h1 h2
  obtain ⟨_, _, _, e1⟩ := f h1
  obtain ⟨_, _, _, e2⟩ := f h2
  exact h a b p _ _ _ _ _ _ e1 e2
theorem Ap2.dat {δ : List Sl} (h : Ap2 δ) {i : Nat} {d : D} : Ap2 (δ.set i (.dat d)) := h.set fun _ _ _ _ e => by cases e
theorem Ap2.no {δ : List Sl} (h : Ap2 δ) {i : Nat} : Ap2 (δ.set i .no) := h.set fun _ _ _ _ e => by cases e
theorem Ap2.own {δ : List Sl} (h : Ap2 δ) {i : Nat} {p : Addr} {ds : List D} : Ap2 (δ.set i (.own p ds)) := h.set fun _ _ _ _ e => by cases e

structure StOk (K : PySem.W.Frag) (F R H : Hp) (σ : L2.St) (δ : List Sl) : Prop where
  fr : Same F H
  rg : Same R H
  ln : σ.length = δ.length
  at_ : ∀ (i : Nat) (s : Sl), δ[i]? = some s → SlOk K F R H σ[i]? s
  ap : ∀ (i j : Nat) (p : Addr) (ds es : List D), δ[i]? = some (.own p ds) → δ[j]? = some (.own p es) → i = j
  ap2 : Ap2 δ

/-- the region grows, outside the frame -/
structure Tr (F R R2 : Hp) : Prop where
  ex : Same R R2
  nw : ∀ a, F a ≠ none → R a = none → R2 a = none
theorem Tr.refl (F R : Hp) : Tr F R R := ⟨Same.refl R, fun _ _ h => h⟩
theorem Tr.trans {F R R1 R2 : Hp} (a : Tr F R R1) (b : Tr F R1 R2) : Tr F R R2 := ⟨a.ex.trans b.ex, fun x h1 h2 => b.nw x h1 (a.nw x h1 h2)⟩
theorem Tr.low {F F' R R2 : Hp} (h : Tr F' R R2) (e : Same F F') : Tr F R R2 := ⟨h.ex, fun a h1 h2 => h.nw a (fun z => h1 (e.free z)) h2⟩

section
variable {K : PySem.W.Frag} {F R H : Hp} {σ : L2.St} {δ : List Sl}
theorem StOk.low {F' : Hp} (s : StOk K F' R H σ δ) (e : Same F F') : StOk K F R H σ δ where
  fr := e.trans s.fr
  rg := s.rg
  ln := s.ln
  at_ := fun i x h => by
    have q := s.at_ i x h
    cases x with
    | no => trivial
    | dat d => exact q
    | own p ds => exact ⟨q.1, e.free q.2.1, q.2.2⟩
    | odc hf p ks vs => exact ⟨q.1, e.free q.2.1, q.2.2⟩
  ap := s.ap
  ap2 := s.ap2
/-- a new object that never changes -/
theorem StOk.new {p : Addr} {o : HO} (s : StOk K F R H σ δ) (h : H p = none) : StOk K F (upd R p o) (upd H p o) σ δ ∧ Tr F R (upd R p o) := by
  have hR : R p = none := s.rg.free h
  have hF : F p = none := s.fr.free h
  have mR : Same R (upd R p o) := fun b u e => by rw [upd_ne (ne_of_none e hR)]; exact e
  refine ⟨⟨fun b u e => ?_, fun b u e => ?_, s.ln, fun i x q => ?_, s.ap, s.ap2⟩, mR, fun a h1 h2 => ?_⟩
  · rw [upd_ne (ne_of_none e hF)]
    exact s.fr b u e
  · by_cases hb : b = p
    · subst hb
      rw [upd_same] at e ⊢
      exact e
    · rw [upd_ne hb] at e ⊢
      exact s.rg b u e
  · have q := s.at_ i x q
    cases x with
    | no => trivial
    | dat d =>
      obtain ⟨v, e, i⟩ := q
      exact ⟨v, e, i.mono mR⟩
    | own r ds =>
      obtain ⟨e, f, g, xs, hx, a⟩ := q
      have hn : r ≠ p := ne_of_none hx h
      exact ⟨e, f, by rw [upd_ne hn]; exact g, xs, by rw [upd_ne hn]; exact hx, a.mono mR⟩
    | odc hf r ks vs =>
      obtain ⟨e, f, g, M, hx, a, b, c⟩ := q
      have hn : r ≠ p := ne_of_none hx h
      exact ⟨e, f, by rw [upd_ne hn]; exact g, M, by rw [upd_ne hn]; exact hx, a.mono mR, b.mono mR, c⟩
  · have hn : a ≠ p := fun e => h1 (e ▸ hF)
    rw [upd_ne hn]
    exact h2
/-- a new object that is not in the region -/
theorem StOk.off {p : Addr} {o : HO} (s : StOk K F R H σ δ) (h : H p = none) : StOk K F R (upd H p o) σ δ := by
  have hR : R p = none := s.rg.free h
  have hF : F p = none := s.fr.free h
  refine ⟨fun b u e => ?_, fun b u e => ?_, s.ln, fun i x q => ?_, s.ap, s.ap2⟩
  · rw [upd_ne (ne_of_none e hF)]
    exact s.fr b u e
  · rw [upd_ne (ne_of_none e hR)]
    exact s.rg b u e
  · have q := s.at_ i x q
    cases x with
    | no => trivial
    | dat d => exact q
    | own r ds =>
      obtain ⟨e, f, g, xs, hx, a⟩ := q
      exact ⟨e, f, g, xs, by rw [upd_ne (ne_of_none hx h)]; exact hx, a⟩
    | odc hf r ks vs =>
      obtain ⟨e, f, g, M, hx, a⟩ := q
      exact ⟨e, f, g, M, by rw [upd_ne (ne_of_none hx h)]; exact hx, a⟩
/-- a list outside becomes part of the region -/
theorem StOk.freeze {p : Addr} {o : HO} (s : StOk K F R H σ δ) (h : H p = some o) (hF : F p = none) (hR : R p = none) (no : ∀ (i : Nat) (es : List D), δ[i]? ≠ some (.own p es)) (no2 : ∀ (hf : NestedKey → Int) (M : List Dk.En), o ≠ Dk.DtO hf p M := by intro hf M z; cases z) : StOk K F (upd R p o) H σ δ ∧ Tr F R (upd R p o) := by
  have mR : Same R (upd R p o) := fun b u e => by rw [upd_ne (ne_of_none e hR)]; exact e
  refine ⟨⟨s.fr, fun b u e => ?_, s.ln, fun i x q => ?_, s.ap, s.ap2⟩, mR, fun a h1 h2 => ?_⟩
  · by_cases hb : b = p
    · subst hb
      rw [upd_same] at e
      cases e
      exact h
    · rw [upd_ne hb] at e
      exact s.rg b u e
  · have z := s.at_ i x q
    cases x with
    | no => trivial
    | dat d =>
      obtain ⟨v, e, i⟩ := z
      exact ⟨v, e, i.mono mR⟩
    | own r ds =>
      obtain ⟨e, f, g, xs, hx, a⟩ := z
      have hn : r ≠ p := fun e => no i ds (e ▸ q)
      exact ⟨e, f, by rw [upd_ne hn]; exact g, xs, hx, a.mono mR⟩
    | odc hf r ks vs =>
      obtain ⟨e, f, g, M, hx, a, b, c⟩ := z
      have hn : r ≠ p := fun e => by subst e; rw [h] at hx; exact no2 hf M (Option.some.inj hx)
      exact ⟨e, f, by rw [upd_ne hn]; exact g, M, hx, a.mono mR, b.mono mR, c⟩
  · have hn : a ≠ p := fun e => h1 (e ▸ hF)
    rw [upd_ne hn]
    exact h2
theorem StOk.setD {i : Nat} {v : V} {d : D} (s : StOk K F R H σ δ) (h : Is K R v d) : StOk K F R H (σ.set i (some v)) (δ.set i (.dat d)) := by
  refine ⟨s.fr, s.rg, by rw [List.length_set, List.length_set]; exact s.ln, fun j x q => ?_, fun j k p ds es q1 q2 => ?_, by first | exact s.ap2.dat | exact s.ap2.no⟩
  · by_cases hj : j = i
    · subst hj
      by_cases hl : j < δ.length
      · rw [List.getElem?_set_self hl] at q
        cases q
        exact ⟨v, by rw [List.getElem?_set_self (by rw [s.ln]; exact hl)], h⟩
      · rw [List.getElem?_eq_none (by rw [List.length_set]; omega)] at q
        cases q
    · rw [List.getElem?_set_ne (Ne.symm hj)] at q ⊢
      exact s.at_ j x q
  · have f : ∀ {m : Nat} {p : Addr} {ds : List D}, (δ.set i (.dat d))[m]? = some (.own p ds) → δ[m]? = some (.own p ds) := fun {m p ds} e => by
      by_cases hm : m = i
      · subst hm
        by_cases hl : m < δ.length
        · rw [List.getElem?_set_self hl] at e
          cases e
        · rw [List.getElem?_eq_none (by rw [List.length_set]; omega)] at e
          cases e
      · rw [List.getElem?_set_ne (Ne.symm hm)] at e
        exact e
    exact s.ap j k p ds es (f q1) (f q2)
theorem StOk.setN {i : Nat} {v : Option V} (s : StOk K F R H σ δ) : StOk K F R H (σ.set i v) (δ.set i .no) := by
  refine ⟨s.fr, s.rg, by rw [List.length_set, List.length_set]; exact s.ln, fun j x q => ?_, fun j k p ds es q1 q2 => ?_, by first | exact s.ap2.dat | exact s.ap2.no⟩
  · by_cases hj : j = i
    · subst hj
      by_cases hl : j < δ.length
      · rw [List.getElem?_set_self hl] at q
        cases q
        trivial
      · rw [List.getElem?_eq_none (by rw [List.length_set]; omega)] at q
        cases q
    · rw [List.getElem?_set_ne (Ne.symm hj)] at q ⊢
      exact s.at_ j x q
  · have f : ∀ {m : Nat} {p : Addr} {ds : List D}, (δ.set i .no)[m]? = some (.own p ds) → δ[m]? = some (.own p ds) := fun {m p ds} e => by
      by_cases hm : m = i
      · subst hm
        by_cases hl : m < δ.length
        · rw [List.getElem?_set_self hl] at e
          cases e
        · rw [List.getElem?_eq_none (by rw [List.length_set]; omega)] at e
          cases e
      · rw [List.getElem?_set_ne (Ne.symm hm)] at e
        exact e
    exact s.ap j k p ds es (f q1) (f q2)
/-- δ forgets a slot -/
theorem StOk.forget {i : Nat} (s : StOk K F R H σ δ) : StOk K F R H σ (δ.set i .no) := by
  have z := s.setN (i := i) (v := (σ[i]?).getD none)
  by_cases hl : i < σ.length
  · have e : σ.set i ((σ[i]?).getD none) = σ := by
      rw [List.getElem?_eq_getElem hl]
      exact List.set_getElem_self hl
    rw [e] at z
    exact z
  · rw [List.set_eq_of_length_le (by omega)] at z
    exact z
theorem StOk.setO {i : Nat} {p : Addr} {xs : List V} {ds : List D} (s : StOk K F R H σ δ) (hF : F p = none) (hR : R p = none) (h : H p = some (.lst xs)) (a : IsA K R xs ds) (no : ∀ (i : Nat) (es : List D), δ[i]? ≠ some (.own p es)) :
    StOk K F R H (σ.set i (some (.ref p))) (δ.set i (.own p ds)) := by
  refine ⟨s.fr, s.rg, by rw [List.length_set, List.length_set]; exact s.ln, fun j x q => ?_, fun j k r fs es q1 q2 => ?_, s.ap2.own⟩
  · by_cases hj : j = i
    · subst hj
      by_cases hl : j < δ.length
      · rw [List.getElem?_set_self hl] at q
        cases q
        exact ⟨by rw [List.getElem?_set_self (by rw [s.ln]; exact hl)], hF, hR, xs, h, a⟩
      · rw [List.getElem?_eq_none (by rw [List.length_set]; omega)] at q
        cases q
    · rw [List.getElem?_set_ne (Ne.symm hj)] at q ⊢
      exact s.at_ j x q
  · have f : ∀ {m : Nat} {r : Addr} {fs : List D}, (δ.set i (.own p ds))[m]? = some (.own r fs) → (m = i ∧ r = p) ∨ (m ≠ i ∧ δ[m]? = some (.own r fs)) := fun {m r fs} e => by
      by_cases hm : m = i
      · subst hm
        by_cases hl : m < δ.length
        · rw [List.getElem?_set_self hl] at e
          cases e
          exact .inl ⟨rfl, rfl⟩
        · rw [List.getElem?_eq_none (by rw [List.length_set]; omega)] at e
          cases e
      · rw [List.getElem?_set_ne (Ne.symm hm)] at e
        exact .inr ⟨hm, e⟩
    rcases f q1 with ⟨e1, e2⟩ | ⟨n1, e1⟩
    · rcases f q2 with ⟨e3, _⟩ | ⟨n2, e3⟩
      · rw [e1, e3]
      · subst e2
        exact absurd e3 (no _ _)
    · rcases f q2 with ⟨e3, e4⟩ | ⟨n2, e3⟩
      · subst e4
        exact absurd e1 (no _ _)
      · exact s.ap j k r fs es e1 e3
/-- the content of an own list changes -/
theorem StOk.updO {i : Nat} {p : Addr} {xs : List V} {ds es : List D} (s : StOk K F R H σ δ) (h : δ[i]? = some (.own p es)) (a : IsA K R xs ds) : StOk K F R (upd H p (.lst xs)) σ (δ.set i (.own p ds)) := by
  obtain ⟨e, hF, hR, ys, hy, _⟩ := s.at_ i _ h
  have hl : i < δ.length := (List.getElem?_eq_some_iff.mp h).1
  refine ⟨fun b u q => ?_, fun b u q => ?_, by rw [List.length_set]; exact s.ln, fun j x q => ?_, fun j k r f1 f2 q1 q2 => ?_, s.ap2.own⟩
  · rw [upd_ne (ne_of_none q hF)]
    exact s.fr b u q
  · rw [upd_ne (ne_of_none q hR)]
    exact s.rg b u q
  · by_cases hj : j = i
    · subst hj
      rw [List.getElem?_set_self hl] at q
      cases q
      exact ⟨e, hF, hR, xs, upd_same, a⟩
    · rw [List.getElem?_set_ne (Ne.symm hj)] at q
      have z := s.at_ j x q
      cases x with
      | no => trivial
      | dat d => exact z
      | own r fs =>
        obtain ⟨e', f', g', zs, hz, az⟩ := z
        have hn : r ≠ p := fun w => hj (s.ap j i p fs es (w ▸ q) h)
        exact ⟨e', f', g', zs, by rw [upd_ne hn]; exact hz, az⟩
      | odc hf r ks vs =>
        obtain ⟨e', f', g', M, hz, az⟩ := z
        have hn : r ≠ p := fun w => by subst w; rw [hy] at hz; cases hz
        exact ⟨e', f', g', M, by rw [upd_ne hn]; exact hz, az⟩
  · have f : ∀ {m : Nat} {r : Addr} {fs : List D}, (δ.set i (.own p ds))[m]? = some (.own r fs) → ∃ gs, δ[m]? = some (.own r gs) := fun {m r fs} e => by
      by_cases hm : m = i
      · subst hm
        rw [List.getElem?_set_self hl] at e
        cases e
        exact ⟨es, h⟩
      · rw [List.getElem?_set_ne (Ne.symm hm)] at e
        exact ⟨fs, e⟩
    obtain ⟨g1, e1⟩ := f q1
    obtain ⟨g2, e2⟩ := f q2
    exact s.ap j k r g1 g2 e1 e2

/-- the dict at p changes -/
theorem StOk.updC {i : Nat} {p : Addr} {hf : NestedKey → Int} {M : List Dk.En} {ks vs ks2 vs2 : List D} (s : StOk K F R H σ δ) (h : δ[i]? = some (.odc hf p ks vs)) (a : IsA K R (entA M) ks2) (a2 : IsA K R (entV M) vs2) (a3 : entK M = ks2.map Bs.kD) :
    StOk K F R (upd H p (Dk.DtO hf p M)) σ (δ.set i (.odc hf p ks2 vs2)) := by
  obtain ⟨e, hF, hR, M0, hy, _⟩ := s.at_ i _ h
  have hl : i < δ.length := (List.getElem?_eq_some_iff.mp h).1
  refine ⟨fun b u q => ?_, fun b u q => ?_, by rw [List.length_set]; exact s.ln, fun j x q => ?_, fun j k r f1 f2 q1 q2 => ?_, s.ap2.set fun p' hf' ks' vs' z => by cases z; exact ⟨_, _, _, h⟩⟩
  · rw [upd_ne (ne_of_none q hF)]
    exact s.fr b u q
  · rw [upd_ne (ne_of_none q hR)]
    exact s.rg b u q
  · by_cases hj : j = i
    · subst hj
      rw [List.getElem?_set_self hl] at q
      cases q
      exact ⟨e, hF, hR, M, upd_same, a, a2, a3⟩
    · rw [List.getElem?_set_ne (Ne.symm hj)] at q
      have z := s.at_ j x q
      cases x with
      | no => trivial
      | dat d => exact z
      | own r fs =>
        obtain ⟨e', f', g', zs, hz, az⟩ := z
        have hn : r ≠ p := fun w => by subst w; rw [hy] at hz; cases hz
        exact ⟨e', f', g', zs, by rw [upd_ne hn]; exact hz, az⟩
      | odc hf' r ks' vs' =>
        obtain ⟨e', f', g', M', hz, az⟩ := z
        have hn : r ≠ p := fun w => hj (s.ap2 j i p _ _ _ _ _ _ (w ▸ q) h)
        exact ⟨e', f', g', M', by rw [upd_ne hn]; exact hz, az⟩
  · have f : ∀ {m : Nat} {r : Addr} {fs : List D}, (δ.set i (.odc hf p ks2 vs2))[m]? = some (.own r fs) → δ[m]? = some (.own r fs) := fun {m r fs} e => by
      by_cases hm : m = i
      · subst hm
        rw [List.getElem?_set_self hl] at e
        cases e
      · rw [List.getElem?_set_ne (Ne.symm hm)] at e
        exact e
    exact s.ap j k r f1 f2 (f q1) (f q2)
/-- a new dict in a slot -/
theorem StOk.setC {i : Nat} {p : Addr} {hf : NestedKey → Int} {M : List Dk.En} {ks vs : List D} (s : StOk K F R H σ δ) (hF : F p = none) (hR : R p = none) (h : H p = some (Dk.DtO hf p M)) (a : IsA K R (entA M) ks) (a2 : IsA K R (entV M) vs) (a3 : entK M = ks.map Bs.kD)
    (no : ∀ (j : Nat) (hf' : NestedKey → Int) (ks' vs' : List D), δ[j]? ≠ some (.odc hf' p ks' vs')) : StOk K F R H (σ.set i (some (.ref p))) (δ.set i (.odc hf p ks vs)) := by
  have f2 : ∀ {m : Nat} {r : Addr} {hf' : NestedKey → Int} {ks' vs' : List D}, (δ.set i (.odc hf p ks vs))[m]? = some (.odc hf' r ks' vs') → (m = i ∧ r = p) ∨ (m ≠ i ∧ δ[m]? = some (.odc hf' r ks' vs')) := fun {m r hf' ks' vs'} e => by
    by_cases hm : m = i
    · subst hm
      by_cases hl : m < δ.length
      · rw [List.getElem?_set_self hl] at e
        cases e
        exact .inl ⟨rfl, rfl⟩
      · rw [List.getElem?_eq_none (by rw [List.length_set]; omega)] at e
        cases e
    · rw [List.getElem?_set_ne (Ne.symm hm)] at e
      exact .inr ⟨hm, e⟩
  refine ⟨s.fr, s.rg, by rw [List.length_set, List.length_set]; exact s.ln, fun j x q => ?_, fun j k r fs es q1 q2 => ?_, fun j k r _ _ _ _ _ _ q1 q2 => ?_⟩
  · by_cases hj : j = i
    · subst hj
      by_cases hl : j < δ.length
      · rw [List.getElem?_set_self hl] at q
        cases q
        exact ⟨by rw [List.getElem?_set_self (by rw [s.ln]; exact hl)], hF, hR, M, h, a, a2, a3⟩
      · rw [List.getElem?_eq_none (by rw [List.length_set]; omega)] at q
        cases q
    · rw [List.getElem?_set_ne (Ne.symm hj)] at q ⊢
      exact s.at_ j x q
  · have f : ∀ {m : Nat} {r : Addr} {fs : List D}, (δ.set i (.odc hf p ks vs))[m]? = some (.own r fs) → δ[m]? = some (.own r fs) := fun {m r fs} e => by
      by_cases hm : m = i
      · subst hm
        by_cases hl : m < δ.length
        · rw [List.getElem?_set_self hl] at e
          cases e
        · rw [List.getElem?_eq_none (by rw [List.length_set]; omega)] at e
          cases e
      · rw [List.getElem?_set_ne (Ne.symm hm)] at e
        exact e
    exact s.ap j k r fs es (f q1) (f q2)
  · rcases f2 q1 with ⟨e1, e2⟩ | ⟨n1, e1⟩
    · rcases f2 q2 with ⟨e3, _⟩ | ⟨n2, e3⟩
      · rw [e1, e3]
      · subst e2
        exact absurd e3 (no _ _ _ _)
    · rcases f2 q2 with ⟨e3, e4⟩ | ⟨n2, e3⟩
      · subst e4
        exact absurd e1 (no _ _ _ _)
      · exact s.ap2 j k r _ _ _ _ _ _ e1 e3
/-- all that stands but the own lists and dicts -/
noncomputable def frm (H : Hp) (δ : List Sl) : Hp := fun a => open Classical in if (∃ (i : Nat) (ds : List D), δ[i]? = some (.own a ds)) ∨ (∃ (i : Nat) (hf : NestedKey → Int) (ks vs : List D), δ[i]? = some (.odc hf a ks vs)) then none else H a
theorem frm_own {i : Nat} {p : Addr} {ds : List D} (h : δ[i]? = some (.own p ds)) : frm H δ p = none := by
  unfold frm
  rw [if_pos (.inl ⟨i, ds, h⟩)]
theorem frm_odc {i : Nat} {p : Addr} {hf : NestedKey → Int} {ks vs : List D} (h : δ[i]? = some (.odc hf p ks vs)) : frm H δ p = none := by
  unfold frm
  rw [if_pos (.inr ⟨i, hf, ks, vs, h⟩)]
theorem frm_not {p : Addr} (h : ∀ (i : Nat) (ds : List D), δ[i]? ≠ some (.own p ds)) (h2 : ∀ (i : Nat) (hf : NestedKey → Int) (ks vs : List D), δ[i]? ≠ some (.odc hf p ks vs)) : frm H δ p = H p := by
  unfold frm
  rw [if_neg (fun z => z.elim (fun ⟨i, ds, e⟩ => h i ds e) fun ⟨i, hf, ks, vs, e⟩ => h2 i hf ks vs e)]
/-- an address that holds no dict -/
theorem StOk.noC {p : Addr} (s : StOk K F R H σ δ) (h : ∀ (hf : NestedKey → Int) (M : List Dk.En), H p ≠ some (Dk.DtO hf p M)) : ∀ (i : Nat) (hf : NestedKey → Int) (ks vs : List D), δ[i]? ≠ some (.odc hf p ks vs) := fun i hf ks vs z => by
  obtain ⟨_, _, _, M, e, _⟩ := s.at_ i _ z
  exact h hf M e
theorem frm_same : Same (frm H δ) H := fun b o e => by
  unfold frm at e
  split at e
  · cases e
  · exact e
theorem StOk.up (s : StOk K F R H σ δ) : StOk K (frm H δ) R H σ δ ∧ Same F (frm H δ) := by
  refine ⟨⟨frm_same, s.rg, s.ln, fun i x q => ?_, s.ap, s.ap2⟩, fun b o e => ?_⟩
  · have z := s.at_ i x q
    cases x with
    | no => trivial
    | dat d => exact z
    | own p ds => exact ⟨z.1, frm_own q, z.2.2⟩
    | odc hf p ks vs => exact ⟨z.1, frm_odc q, z.2.2⟩
  · rw [frm_not (fun i ds q => ?_) fun i hf ks vs q => ?_]
    · exact s.fr b o e
    · rw [(s.at_ i _ q).2.1] at e
      cases e
    · rw [(s.at_ i _ q).2.1] at e
      cases e
end
end Dy

/-! part Ly2 -/
namespace Dy
open PySem PySem.Spec PyProof.Rows L2

/-! what holds of code, whatever the derivation -/
structure wE (X : Cx) (e : Expr) (σ : L2.St) (H : Hp) (Q : VK) : Prop where
  run : ∀ (pins : List (Addr × Obj)) (s : Shared), L2.Inv X pins σ H s → wpAny (model X.prog X.w) X.A (eval e X.env) (EP X pins σ Q) X.xe s
structure wT (X : Cx) (e : Expr) (σ : L2.St) (H : Hp) (Q : Bool → Hp → Prop) : Prop where
  run : ∀ (pins : List (Addr × Obj)) (s : Shared), L2.Inv X pins σ H s → wpAny (model X.prog X.w) X.A (isTrue e X.env (eval e X.env)) (TP X pins σ Q) X.xe s
structure wA (X : Cx) (es : List Expr) (σ : L2.St) (H : Hp) (Q : List V → Hp → Prop) : Prop where
  run : ∀ (pos : Pos) (pins : List (Addr × Obj)) (s : Shared), L2.Inv X pins σ H s → wpAny (model X.prog X.w) X.A (spliced (backTo pos (starEach es X.env))) (AP X pins σ Q) X.xe s
structure wS (X : Cx) (st : Stmt) (E : Ends) (σ : L2.St) (H : Hp) : Prop where
  run : ∀ (pins : List (Addr × Obj)) (s : Shared), L2.Inv X pins σ H s → wpAny (model X.prog X.w) X.A (exec st X.env) (SP X pins E) X.xe s
structure wSs (X : Cx) (sts : List Stmt) (E : Ends) (σ : L2.St) (H : Hp) : Prop where
  run : ∀ (pins : List (Addr × Obj)) (s : Shared), L2.Inv X pins σ H s → wpAny (model X.prog X.w) X.A (execs sts X.env) (SP X pins E) X.xe s
structure wG (X : Cx) (tg : Expr) (v : V) (σ : L2.St) (H : Hp) (Q : L2.St → Hp → Prop) : Prop where
  run : ∀ (pins : List (Addr × Obj)) (s : Shared) (u : Value), L2.Inv X pins σ H s → RelV v u → wpAny (model X.prog X.w) X.A (assign tg X.env u) (fun _ s' => ∃ σ' H', L2.Inv X pins σ' H' s' ∧ Q σ' H') X.xe s
structure wI (X : Cx) (tg it : Expr) (σ : L2.St) (H : Hp) (R : It → Hp → Prop) : Prop where
  run : ∀ (pins : List (Addr × Obj)) (s : Shared), L2.Inv X pins σ H s →
    wpAny (model X.prog X.w) X.A (eval it X.env) (fun v s1 => wpAny (model X.prog X.w) X.A (pyIter v) (PIE X pins σ tg R) X.xe s1) X.xe s
def wTs (X : Cx) (ifs : List Expr) : TT := fun σ H Q => ∃ t, PTs X ifs t ∧ t σ H Q
section
variable {X : Cx} {e tg it : Expr} {es ifs : List Expr} {st : Stmt} {sts : List Stmt} {σ : L2.St} {H : Hp}
theorem peW : PE X e (wE X e) := ⟨fun pins s _ _ _ I h => h.run pins s I⟩
theorem ptW : PT X e (wT X e) := ⟨fun pins s _ _ _ I h => h.run pins s I⟩
theorem paW : PA X es (wA X es) := ⟨fun pos pins s _ _ _ I h => h.run pos pins s I⟩
theorem psW : PS X st (wS X st) := ⟨fun pins s _ _ _ I h => h.run pins s I⟩
theorem pssW : PSs X sts (wSs X sts) := ⟨fun pins s _ _ _ I h => h.run pins s I⟩
theorem pgW : PG X tg (wG X tg) := ⟨fun pins s _ _ _ u _ I r h => h.run pins s u I r⟩
theorem piW : PI X tg it (wI X tg it) := ⟨fun pins s _ _ _ I h => h.run pins s I⟩
theorem ptsW : PTs X ifs (wTs X ifs) := ⟨fun pins s σ H Q I ⟨t, p, h⟩ => p.run pins s σ H Q I h⟩
theorem _root_.L2.PE.w {t : TE} {Q : VK} (p : PE X e t) (h : t σ H Q) : wE X e σ H Q := ⟨fun pins s I => p.run pins s σ H Q I h⟩
theorem _root_.L2.PT.w {t : TT} {Q : Bool → Hp → Prop} (p : PT X e t) (h : t σ H Q) : wT X e σ H Q := ⟨fun pins s I => p.run pins s σ H Q I h⟩
theorem _root_.L2.PA.w {t : TA} {Q : List V → Hp → Prop} (p : PA X es t) (h : t σ H Q) : wA X es σ H Q := ⟨fun pos pins s I => p.run pos pins s σ H Q I h⟩
theorem _root_.L2.PS.w {t : TS} {E : Ends} (p : PS X st t) (h : t E σ H) : wS X st E σ H := ⟨fun pins s I => p.run pins s σ H E I h⟩
theorem _root_.L2.PSs.w {t : TS} {E : Ends} (p : PSs X sts t) (h : t E σ H) : wSs X sts E σ H := ⟨fun pins s I => p.run pins s σ H E I h⟩
theorem _root_.L2.PG.w {t : TG} {v : V} {Q : L2.St → Hp → Prop} (p : PG X tg t) (h : t v σ H Q) : wG X tg v σ H Q := ⟨fun pins s u I r => p.run pins s σ H v u Q I r h⟩
theorem _root_.L2.PI.w {t : TI} {R : It → Hp → Prop} (p : PI X tg it t) (h : t σ H R) : wI X tg it σ H R := ⟨fun pins s I => p.run pins s σ H R I h⟩
end

/-! the same of data -/
def DE (X : Cx) (e : Expr) (δ : List Sl) (d : D) (δ' : List Sl) : Prop := ∀ (F R H : Hp) (σ : L2.St) (Q : VK), StOk X.K F R H σ δ →
  (∀ v R2 H2, Tr F R R2 → StOk X.K F R2 H2 σ δ' → Is X.K R2 v d → Q v H2) → wE X e σ H Q
/-- a new list, not yet in the region -/
def DO (X : Cx) (e : Expr) (δ : List Sl) (ds : List D) (δ' : List Sl) : Prop := ∀ (F R H : Hp) (σ : L2.St) (Q : VK), StOk X.K F R H σ δ →
  (∀ p xs R2 H2, Tr F R R2 → StOk X.K F R2 H2 σ δ' → F p = none → R2 p = none → H2 p = some (.lst xs) → IsA X.K R2 xs ds → (∀ (i : Nat) (es : List D), δ'[i]? ≠ some (.own p es)) → Q (.ref p) H2) → wE X e σ H Q
def DT (X : Cx) (e : Expr) (δ : List Sl) (b : Bool) (δ' : List Sl) : Prop := ∀ (F R H : Hp) (σ : L2.St) (Q : Bool → Hp → Prop), StOk X.K F R H σ δ →
  (∀ R2 H2, Tr F R R2 → StOk X.K F R2 H2 σ δ' → Q b H2) → wT X e σ H Q
def DTs (X : Cx) (ifs : List Expr) (δ : List Sl) (b : Bool) (δ' : List Sl) : Prop := ∀ (F R H : Hp) (σ : L2.St) (Q : Bool → Hp → Prop), StOk X.K F R H σ δ →
  (∀ R2 H2, Tr F R R2 → StOk X.K F R2 H2 σ δ' → Q b H2) → wTs X ifs σ H Q
def DA (X : Cx) (es : List Expr) (δ : List Sl) (ds : List D) (δ' : List Sl) : Prop := ∀ (F R H : Hp) (σ : L2.St) (Q : List V → Hp → Prop), StOk X.K F R H σ δ →
  (∀ vs R2 H2, Tr F R R2 → StOk X.K F R2 H2 σ δ' → IsA X.K R2 vs ds → Q vs H2) → wA X es σ H Q
/-- a target, stored; ws: the places that may change -/
def DG (X : Cx) (tg : Expr) (d : D) (ws : List Nat) (δ δ' : List Sl) : Prop := ∀ (F R H : Hp) (σ : L2.St) (v : V) (Q : L2.St → Hp → Prop), StOk X.K F R H σ δ → Is X.K R v d →
  (∀ σ', σ'.length = σ.length → (∀ j, j ∉ ws → σ'[j]? = σ[j]?) → StOk X.K F R H σ' δ' → Q σ' H) → wG X tg v σ H Q
/-- what an iterator gives -/
structure Wlk (K : PySem.W.Frag) (J : It) (R : Hp) (items : List D) : Prop where
  stop : ∀ H, Same R H → J.stop items.length H
  go : ∀ i H, Same R H → i < items.length → J.go i H
  yld : ∀ (i : Nat) (d : D) (H : Hp) (x : V) (H' R2 : Hp), Same R R2 → Same R2 H → items[i]? = some d → J.yld i H x H' →
    (H' = H ∧ Is K R2 x d) ∨ ∃ T o, H T = none ∧ H' = upd H T o ∧ Is K (upd R2 T o) x d
def DI (X : Cx) (tg it : Expr) (δ : List Sl) (items : List D) (δ' : List Sl) : Prop := ∀ (F R H : Hp) (σ : L2.St) (Z : It → Hp → Prop), StOk X.K F R H σ δ →
  (∀ J R1 H1, Tr F R R1 → StOk X.K F R1 H1 σ δ' → Wlk X.K J R1 items → Z J H1) → wI X tg it σ H Z
structure DD where
  nx : List Sl → Prop
  rt : D → List Sl → Prop := fun _ _ => False
  ro : List D → List Sl → Prop := fun _ _ => False
  bk : List Sl → Prop := fun _ => False
  ct : List Sl → Prop := fun _ => False
structure EnOk (K : PySem.W.Frag) (F R : Hp) (Φ : DD) (E : Ends) : Prop where
  nx : ∀ R' H' σ' δ', Tr F R R' → StOk K F R' H' σ' δ' → Φ.nx δ' → E.nx σ' H'
  rt : ∀ R' H' σ' δ' v d, Tr F R R' → StOk K F R' H' σ' δ' → Is K R' v d → Φ.rt d δ' → E.rt v H'
  ro : ∀ R' H' σ' δ' p xs ds, Tr F R R' → StOk K F R' H' σ' δ' → F p = none → R' p = none → H' p = some (.lst xs) → IsA K R' xs ds → (∀ (i : Nat) (es : List D), δ'[i]? ≠ some (.own p es)) → Φ.ro ds δ' → E.rt (.ref p) H'
  bk : ∀ R' H' σ' δ', Tr F R R' → StOk K F R' H' σ' δ' → Φ.bk δ' → E.bk σ' H'
  ct : ∀ R' H' σ' δ', Tr F R R' → StOk K F R' H' σ' δ' → Φ.ct δ' → E.ct σ' H'
theorem EnOk.tr {K : PySem.W.Frag} {F R R1 : Hp} {Φ : DD} {E : Ends} (h : EnOk K F R Φ E) (t : Tr F R R1) : EnOk K F R1 Φ E :=
  ⟨fun R' H' σ' δ' a => h.nx R' H' σ' δ' (t.trans a), fun R' H' σ' δ' v d a => h.rt R' H' σ' δ' v d (t.trans a), fun R' H' σ' δ' p xs ds a => h.ro R' H' σ' δ' p xs ds (t.trans a),
    fun R' H' σ' δ' a => h.bk R' H' σ' δ' (t.trans a), fun R' H' σ' δ' a => h.ct R' H' σ' δ' (t.trans a)⟩
def DS (X : Cx) (st : Stmt) (δ : List Sl) (Φ : DD) : Prop := ∀ (F R H : Hp) (σ : L2.St) (E : Ends), StOk X.K F R H σ δ → EnOk X.K F R Φ E → wS X st E σ H
def DSs (X : Cx) (sts : List Stmt) (δ : List Sl) (Φ : DD) : Prop := ∀ (F R H : Hp) (σ : L2.St) (E : Ends), StOk X.K F R H σ δ → EnOk X.K F R Φ E → wSs X sts E σ H

section
variable {X : Cx} {e a b c : Expr} {es : List Expr} {st : Stmt} {sts : List Stmt} {δ δ1 δ2 δ3 : List Sl} {d : D} {ds : List D} {pos : Pos} {Φ : DD} {i : Nat} {x : Str}

/-! expressions -/
theorem DO.de (h : DO X e δ ds δ1) : DE X e δ (.lst ds) δ1 := fun F R H σ Q s k => h F R H σ Q s fun p xs R2 H2 t s2 hF hR hp ia no => by
  obtain ⟨s3, t3⟩ := s2.freeze hp hF hR no
  exact k _ _ _ (t.trans t3) s3 (.lst upd_same (ia.mono t3.ex))
theorem de_v (i : Nat) (h : δ[i]? = some (.dat d) := by rfl) (hN : X.N[i]? = some x := by rfl) (hv : Vis X.env.scope x := by first | exact Or.inl rfl | exact Or.inr (Or.inl rfl) | exact Or.inr (Or.inr rfl))
    (hd : (x == ("__debug__" : Str)) = false := by decide) (hcd : (x == ("__classdict__" : Str)) = false := by decide) : DE X (.Name x pos) δ d δ := fun F R H σ Q s k => by
  obtain ⟨v, e, z⟩ := s.at_ i _ h
  exact (pe_var hN hv hd hcd).w ⟨v, e, k v R H (Tr.refl _ _) s z⟩
theorem de_int {n : Int} {j : Nat} : DE X (.Constant (.int n) j pos) δ (.int n) δ := fun F R H σ Q s k => (pe_int).w (k _ R H (Tr.refl _ _) s (.int n))
theorem de_bl {n : Bool} {j : Nat} : DE X (.Constant (.bool n) j pos) δ (.bl n) δ := fun F R H σ Q s k => (pe_bl).w (k _ R H (Tr.refl _ _) s (.bl n))
theorem de_non {j : Nat} : DE X (.Constant .none j pos) δ .non δ := fun F R H σ Q s k => (pe_non).w (k _ R H (Tr.refl _ _) s .non)
theorem de_str {n : Str} {j : Nat} : DE X (.Constant (.str n) j pos) δ (.str n) δ := fun F R H σ Q s k => (pe_str).w (k _ R H (Tr.refl _ _) s (.str n))
/-- a two-place operator by its rule -/
theorem de_bin {op : Operator} {r : R2} {d1 d2 dr : D} (ho : OpR X (binaryOp op) r) (ha : DE X a δ d1 δ1) (hb : DE X b δ1 d2 δ2)
    (hr : ∀ x y H Q, (∀ R, Same R H → Is X.K R x d1 → Is X.K R y d2 → (∀ z, (∀ R, Is X.K R z dr) → Q z H) → r x y H Q)) : DE X (.BinOp a op b pos) δ dr δ2 := fun F R H σ Q s k =>
  (pe_op ho peW peW).w (ha F R H σ _ s fun x R1 H1 t1 s1 ix => hb F R1 H1 σ _ s1 fun y R2 H2 t2 s2 iy => hr x y H2 Q R2 s2.rg (ix.mono t2.ex) iy fun z hz => k z R2 H2 (t1.trans t2) s2 (hz R2))
theorem de_bi {op : Operator} {C : Int → Int → Prop} {g : Int → Int → Int} {m n : Int} (ho : OpR X (binaryOp op) (rI C fun i j => .int (g i j))) (hc : C m n) (ha : DE X a δ (.int m) δ1) (hb : DE X b δ1 (.int n) δ2) : DE X (.BinOp a op b pos) δ (.int (g m n)) δ2 :=
  de_bin ho ha hb fun x y H Q R _ ix iy k => by
    cases ix
    cases iy
    exact ⟨m, n, rfl, rfl, hc, k _ fun _ => .int _⟩
theorem de_bi0 {op : Operator} {g : Int → Int → Int} {m n : Int} (ho : OpR X (binaryOp op) (rI0 fun i j => .int (g i j))) (ha : DE X a δ (.int m) δ1) (hb : DE X b δ1 (.int n) δ2) : DE X (.BinOp a op b pos) δ (.int (g m n)) δ2 :=
  de_bin ho ha hb fun x y H Q R _ ix iy k => by
    cases ix
    cases iy
    exact ⟨m, n, rfl, rfl, k _ fun _ => .int _⟩
theorem de_add {m n : Int} (ha : DE X a δ (.int m) δ1) (hb : DE X b δ1 (.int n) δ2) : DE X (.BinOp a .Add b pos) δ (.int (m + n)) δ2 := de_bi0 (g := fun i j => i + j) op_add ha hb
theorem de_sub {m n : Int} (ha : DE X a δ (.int m) δ1) (hb : DE X b δ1 (.int n) δ2) : DE X (.BinOp a .Sub b pos) δ (.int (m - n)) δ2 := de_bi0 (g := fun i j => i - j) op_sub ha hb
theorem de_mul {m n : Int} (hc : CMulW m n) (ha : DE X a δ (.int m) δ1) (hb : DE X b δ1 (.int n) δ2) : DE X (.BinOp a .Mult b pos) δ (.int (m * n)) δ2 := de_bi (g := fun i j => i * j) op_mulW hc ha hb
theorem de_mod {m n : Int} (hc : 0 < n) (ha : DE X a δ (.int m) δ1) (hb : DE X b δ1 (.int n) δ2) : DE X (.BinOp a .Mod b pos) δ (.int (m % n)) δ2 := de_bi (C := fun _ j => 0 < j) (g := fun i j => i % j) op_mod hc ha hb
theorem de_un {op : UnaryOp} {g : Int → Int} {m : Int} (ho : UnR X (unaryOp op) (rU fun i => .int (g i))) (ha : DE X a δ (.int m) δ1) : DE X (.UnaryOp op a pos) δ (.int (g m)) δ1 := fun F R H σ Q s k =>
  (pe_un ho peW).w (ha F R H σ _ s fun x R1 H1 t1 s1 ix => by
    cases ix
    exact ⟨m, rfl, k _ R1 H1 t1 s1 (.int _)⟩)
theorem de_neg {m : Int} (ha : DE X a δ (.int m) δ1) : DE X (.UnaryOp .USub a pos) δ (.int (-m)) δ1 := de_un (g := fun i => -i) un_neg ha
/-- comparisons of ints -/
theorem de_ci {op : CmpOp} {g : Int → Int → Bool} {m n : Int} (ho : OpR X (compareOp op) (rI0 fun i j => .bl (g i j))) (hm : behindInMarks op b = false) (ha : DE X a δ (.int m) δ1) (hb : DE X b δ1 (.int n) δ2) : DE X (.Compare a [op] [b] pos) δ (.bl (g m n)) δ2 := fun F R H σ Q s k =>
  (pe_cmpR ho peW peW hm).w (ha F R H σ _ s fun x R1 H1 t1 s1 ix => hb F R1 H1 σ _ s1 fun y R2 H2 t2 s2 iy => by
    cases ix
    cases iy
    exact ⟨m, n, rfl, rfl, k _ R2 H2 (t1.trans t2) s2 (.bl _)⟩)
theorem de_lt {m n : Int} (ha : DE X a δ (.int m) δ1) (hb : DE X b δ1 (.int n) δ2) : DE X (.Compare a [.Lt] [b] pos) δ (.bl (decide (m < n))) δ2 := de_ci (g := fun i j => decide (i < j)) op_lt (nomark _) ha hb
theorem de_le {m n : Int} (ha : DE X a δ (.int m) δ1) (hb : DE X b δ1 (.int n) δ2) : DE X (.Compare a [.LtE] [b] pos) δ (.bl (decide (m ≤ n))) δ2 := de_ci (g := fun i j => decide (i ≤ j)) op_le (nomark _) ha hb
theorem de_gt {m n : Int} (ha : DE X a δ (.int m) δ1) (hb : DE X b δ1 (.int n) δ2) : DE X (.Compare a [.Gt] [b] pos) δ (.bl (decide (n < m))) δ2 := de_ci (g := fun i j => decide (j < i)) op_gt (nomark _) ha hb
theorem de_ge {m n : Int} (ha : DE X a δ (.int m) δ1) (hb : DE X b δ1 (.int n) δ2) : DE X (.Compare a [.GtE] [b] pos) δ (.bl (decide (n ≤ m))) δ2 := de_ci (g := fun i j => decide (j ≤ i)) op_ge (nomark _) ha hb
theorem de_eqi {m n : Int} (ha : DE X a δ (.int m) δ1) (hb : DE X b δ1 (.int n) δ2) : DE X (.Compare a [.Eq] [b] pos) δ (.bl (decide (m = n))) δ2 := fun F R H σ Q s k =>
  (pe_cmp (pc_eqI peW peW) (nomark _)).w (ha F R H σ _ s fun x R1 H1 t1 s1 ix => hb F R1 H1 σ _ s1 fun y R2 H2 t2 s2 iy => by
    cases ix
    cases iy
    exact ⟨m, n, rfl, rfl, k _ R2 H2 (t1.trans t2) s2 (.bl _)⟩)
theorem de_nei {m n : Int} (ha : DE X a δ (.int m) δ1) (hb : DE X b δ1 (.int n) δ2) : DE X (.Compare a [.NotEq] [b] pos) δ (.bl (!decide (m = n))) δ2 := fun F R H σ Q s k =>
  (pe_cmp (pc_neI peW peW) (nomark _)).w (ha F R H σ _ s fun x R1 H1 t1 s1 ix => hb F R1 H1 σ _ s1 fun y R2 H2 t2 s2 iy => by
    cases ix
    cases iy
    exact ⟨m, n, rfl, rfl, k _ R2 H2 (t1.trans t2) s2 (.bl _)⟩)
theorem de_nebb {m n : Bool} (ha : DE X a δ (.bl m) δ1) (hb : DE X b δ1 (.bl n) δ2) : DE X (.Compare a [.NotEq] [b] pos) δ (.bl (!decide (m = n))) δ2 := fun F R H σ Q s k =>
  (pe_cmpR op_ne peW peW (nomark _)).w (ha F R H σ _ s fun x R1 H1 t1 s1 ix => hb F R1 H1 σ _ s1 fun y R2 H2 t2 s2 iy => by
    cases ix
    cases iy
    refine ⟨rfl, ?_⟩
    have e : decide (V.bl m = V.bl n) = decide (m = n) := by
      rw [dec_bl]
      cases m <;> cases n <;> rfl
    rw [e]
    exact k _ R2 H2 (t1.trans t2) s2 (.bl _))
theorem de_nes {m n : Str} (ha : DE X a δ (.str m) δ1) (hb : DE X b δ1 (.str n) δ2) : DE X (.Compare a [.NotEq] [b] pos) δ (.bl (!decide (m = n))) δ2 := fun F R H σ Q s k =>
  (pe_cmpR op_ne peW peW (nomark _)).w (ha F R H σ _ s fun x R1 H1 t1 s1 ix => hb F R1 H1 σ _ s1 fun y R2 H2 t2 s2 iy => by
    cases ix
    cases iy
    refine ⟨rfl, ?_⟩
    have e : decide (V.str m = V.str n) = decide (m = n) := by
      by_cases h : m = n
      · rw [h, decide_eq_true rfl, decide_eq_true rfl]
      · rw [decide_eq_false h, decide_eq_false fun z => h (V.str.inj z)]
    rw [e]
    exact k _ R2 H2 (t1.trans t2) s2 (.bl _))
theorem de_eqs {m n : Str} (ha : DE X a δ (.str m) δ1) (hb : DE X b δ1 (.str n) δ2) : DE X (.Compare a [.Eq] [b] pos) δ (.bl (decide (m = n))) δ2 := fun F R H σ Q s k =>
  (pe_cmpR op_eq peW peW (nomark _)).w (ha F R H σ _ s fun x R1 H1 t1 s1 ix => hb F R1 H1 σ _ s1 fun y R2 H2 t2 s2 iy => by
    cases ix
    cases iy
    refine ⟨rfl, ?_⟩
    have e : decide (V.str m = V.str n) = decide (m = n) := by
      by_cases h : m = n
      · rw [h, decide_eq_true rfl, decide_eq_true rfl]
      · rw [decide_eq_false h, decide_eq_false fun z => h (V.str.inj z)]
    rw [e]
    exact k _ R2 H2 (t1.trans t2) s2 (.bl _))
/-- m <= x <= n -/
theorem de_chain {op op' : CmpOp} {g g' : Int → Int → Bool} {l m n : Int} (ho : OpR X (compareOp op) (rI0 fun i j => .bl (g i j))) (ho' : OpR X (compareOp op') (rI0 fun i j => .bl (g' i j))) (hm : behindInMarks op b = false) (hm' : behindInMarks op' c = false)
    (ha : DE X a δ (.int l) δ1) (hb : DE X b δ1 (.int m) δ2) (hc : DE X c δ2 (.int n) δ2) (p : PE X (.Compare a [op, op'] [b, c] pos) (tChain (rI0 fun i j => .bl (g i j)) (rI0 fun i j => .bl (g' i j)) (wE X a) (wE X b) (wE X c))) :
    DE X (.Compare a [op, op'] [b, c] pos) δ (.bl (g l m && g' m n)) δ2 := fun F R H σ Q s k =>
  p.w (ha F R H σ _ s fun x R1 H1 t1 s1 ix => hb F R1 H1 σ _ s1 fun y R2 H2 t2 s2 iy => by
    cases ix
    cases iy
    refine ⟨l, m, rfl, rfl, g l m, rfl, ?_⟩
    cases hg : g l m with
    | true =>
      rw [if_pos rfl]
      refine hc F R2 H2 σ _ s2 fun z R3 H3 t3 s3 iz => ?_
      cases iz
      refine ⟨m, n, rfl, rfl, ?_⟩
      have e := k (.bl (g l m && g' m n)) R3 H3 ((t1.trans t2).trans t3) s3 (.bl _)
      rw [hg] at e
      exact e
    | false =>
      rw [if_neg Bool.false_ne_true]
      have e := k (.bl (g l m && g' m n)) R2 H2 (t1.trans t2) s2 (.bl _)
      rw [hg] at e
      exact e)
/-! and, or, not as values -/
theorem de_one {op : BoolOp} (ha : DE X a δ d δ1) : DE X (.BoolOp op [a] pos) δ d δ1 := fun F R H σ Q s k => (pe_one peW).w (ha F R H σ Q s k)
theorem de_andT {rest : List Expr} (ha : DE X a δ (.bl true) δ1) (hb : DE X (.BoolOp .And (b :: rest) pos) δ1 d δ2) : DE X (.BoolOp .And (a :: b :: rest) pos) δ d δ2 := fun F R H σ Q s k =>
  (pe_and peW peW).w (ha F R H σ _ s fun x R1 H1 t1 s1 ix => by
    cases ix
    refine ⟨true, rfl, ?_⟩
    rw [if_pos rfl]
    exact hb F R1 H1 σ Q s1 fun y R2 H2 t2 => k y R2 H2 (t1.trans t2))
theorem de_andF {rest : List Expr} (ha : DE X a δ (.bl false) δ1) : DE X (.BoolOp .And (a :: b :: rest) pos) δ (.bl false) δ1 := fun F R H σ Q s k =>
  (pe_and (tb := fun _ _ _ => False) peW ⟨fun _ _ _ _ _ _ h => h.elim⟩).w (ha F R H σ _ s fun x R1 H1 t1 s1 ix => by
    cases ix
    refine ⟨false, rfl, ?_⟩
    rw [if_neg Bool.false_ne_true]
    exact k _ R1 H1 t1 s1 (.bl _))
theorem de_and {rest : List Expr} {m n : Bool} (ha : DE X a δ (.bl m) δ1) (hb : m = true → DE X (.BoolOp .And (b :: rest) pos) δ1 (.bl n) δ1) : DE X (.BoolOp .And (a :: b :: rest) pos) δ (.bl (m && n)) δ1 := by
  cases m with
  | true => exact de_andT ha (hb rfl)
  | false => exact de_andF ha
theorem de_orF {rest : List Expr} (ha : DE X a δ (.bl false) δ1) (hb : DE X (.BoolOp .Or (b :: rest) pos) δ1 d δ2) : DE X (.BoolOp .Or (a :: b :: rest) pos) δ d δ2 := fun F R H σ Q s k =>
  (pe_or peW peW).w (ha F R H σ _ s fun x R1 H1 t1 s1 ix => by
    cases ix
    refine ⟨false, rfl, ?_⟩
    rw [if_neg Bool.false_ne_true]
    exact hb F R1 H1 σ Q s1 fun y R2 H2 t2 => k y R2 H2 (t1.trans t2))
theorem de_orT {rest : List Expr} (ha : DE X a δ (.bl true) δ1) : DE X (.BoolOp .Or (a :: b :: rest) pos) δ (.bl true) δ1 := fun F R H σ Q s k =>
  (pe_or (tb := fun _ _ _ => False) peW ⟨fun _ _ _ _ _ _ h => h.elim⟩).w (ha F R H σ _ s fun x R1 H1 t1 s1 ix => by
    cases ix
    refine ⟨true, rfl, ?_⟩
    rw [if_pos rfl]
    exact k _ R1 H1 t1 s1 (.bl _))
theorem de_or {rest : List Expr} {m n : Bool} (ha : DE X a δ (.bl m) δ1) (hb : m = false → DE X (.BoolOp .Or (b :: rest) pos) δ1 (.bl n) δ1) : DE X (.BoolOp .Or (a :: b :: rest) pos) δ (.bl (m || n)) δ1 := by
  cases m with
  | true => exact de_orT ha
  | false => exact de_orF ha (hb rfl)
theorem de_not {m : Bool} (ha : DE X a δ (.bl m) δ1) : DE X (.UnaryOp .Not a pos) δ (.bl (!m)) δ1 := fun F R H σ Q s k =>
  (pe_not peW).w (ha F R H σ _ s fun x R1 H1 t1 s1 ix => by
    cases ix
    exact ⟨m, rfl, k _ R1 H1 t1 s1 (.bl _)⟩)
theorem de_if {m : Bool} (hc : DT X c δ m δ1) (ha : m = true → DE X a δ1 d δ2) (hb : m = false → DE X b δ1 d δ2) : DE X (.IfExp c a b pos) δ d δ2 := fun F R H σ Q s k =>
  (pe_ifExp ptW peW peW).w (hc F R H σ _ s fun R1 H1 t1 s1 => by
    cases m with
    | true =>
      rw [if_pos rfl]
      exact ha rfl F R1 H1 σ Q s1 fun y R2 H2 t2 => k y R2 H2 (t1.trans t2)
    | false =>
      rw [if_neg Bool.false_ne_true]
      exact hb rfl F R1 H1 σ Q s1 fun y R2 H2 t2 => k y R2 H2 (t1.trans t2))
/-! tests -/
theorem dt_val {m : Bool} (h : DE X e δ (.bl m) δ1) (he : ∀ whole, isTrue e X.env whole = (do let v ← whole; standAt e.pos; holding [v] (truthy v)) := by intro _; rfl) : DT X e δ m δ1 := fun F R H σ Q s k =>
  (pt_val peW he).w (h F R H σ _ s fun x R1 H1 t1 s1 ix => by
    cases ix
    exact ⟨m, rfl, k R1 H1 t1 s1⟩)
theorem dt_not {m : Bool} (h : DT X e δ m δ1) : DT X (.UnaryOp .Not e pos) δ (!m) δ1 := fun F R H σ Q s k => (pt_not ptW).w (h F R H σ _ s fun R1 H1 t1 s1 => k R1 H1 t1 s1)
theorem dt_or {m n : Bool} (ha : DT X a δ m δ1) (hb : m = false → DT X b δ1 n δ1) : DT X (.BoolOp .Or [a, b] pos) δ (m || n) δ1 := fun F R H σ Q s k =>
  (PW.pt (pw_or ptW (pw_or1 ptW))).w (ha F R H σ _ s fun R1 H1 t1 s1 => by
    cases m with
    | true =>
      rw [if_pos rfl]
      exact k R1 H1 t1 s1
    | false =>
      rw [if_neg Bool.false_ne_true]
      exact hb rfl F R1 H1 σ _ s1 fun R2 H2 t2 s2 => k R2 H2 (t1.trans t2) s2)
theorem dt_and {m n : Bool} (ha : DT X a δ m δ1) (hb : m = true → DT X b δ1 n δ1) : DT X (.BoolOp .And [a, b] pos) δ (m && n) δ1 := fun F R H σ Q s k =>
  (PW.pt (pw_and ptW (pw_and1 ptW))).w (ha F R H σ _ s fun R1 H1 t1 s1 => by
    cases m with
    | false =>
      rw [if_neg Bool.false_ne_true]
      exact k R1 H1 t1 s1
    | true =>
      rw [if_pos rfl]
      exact hb rfl F R1 H1 σ _ s1 fun R2 H2 t2 s2 => k R2 H2 (t1.trans t2) s2)
theorem dt_is {m n : Bool} (h : DT X e δ m δ1) (q : m = n) : DT X e δ n δ1 := q ▸ h
theorem de_is {d2 : D} (h : DE X e δ d δ1) (q : d = d2) : DE X e δ d2 δ1 := q ▸ h
/-! argument lists, displays -/
theorem da_nil : DA X [] δ [] δ := fun F R H σ Q s k => (pa_nil).w (k [] R H (Tr.refl _ _) s .nil)
theorem da_cons (ha : DE X e δ d δ1) (hr : DA X es δ1 ds δ2) (hs : starEach (e :: es) X.env = (false, eval e X.env) :: starEach es X.env := by exact st_any rfl) : DA X (e :: es) δ (d :: ds) δ2 := fun F R H σ Q s k =>
  (pa_cons peW paW hs).w (ha F R H σ _ s fun x R1 H1 t1 s1 ix => hr F R1 H1 σ _ s1 fun xs R2 H2 t2 s2 ixs => k (x :: xs) R2 H2 (t1.trans t2) s2 (.cons (ix.mono t2.ex) ixs))
theorem de_tup {j : Nat} (h : DA X es δ ds δ1) (hl : ds.length ≤ sizeLine := by decide) : DE X (.Tuple es j pos) δ (.tup ds) δ1 := fun F R H σ Q s k =>
  (pe_tup paW).w (h F R H σ _ s fun xs R1 H1 t1 s1 ix => ⟨by rw [ix.len]; exact hl, fun p hp => by
    obtain ⟨s2, t2⟩ := s1.new (o := .tup xs) hp
    exact k _ _ _ (t1.trans t2) s2 (.tup (.inl (.inl upd_same)) (ix.mono t2.ex))⟩)
theorem do_lst (h : DA X es δ ds δ1) (hl : ds.length ≤ sizeLine := by decide) : DO X (.List es pos) δ ds δ1 := fun F R H σ Q s k =>
  (pe_lst paW).w (h F R H σ _ s fun xs R1 H1 t1 s1 ix => ⟨by rw [ix.len]; exact hl, fun p hp =>
    k p xs R1 _ t1 (s1.off hp) (s1.fr.free hp) (s1.rg.free hp) upd_same ix fun i es q => by
      obtain ⟨_, _, _, ys, hy, _⟩ := s1.at_ i _ q
      rw [hp] at hy
      cases hy⟩)
/-! statements -/
theorem dss_nil (h : Φ.nx δ) : DSs X [] δ Φ := fun F R H σ E s k => (pss_nil).w (k.nx R H σ δ (Tr.refl _ _) s h)
theorem dss_cons (h : DS X st δ { Φ with nx := fun δ' => DSs X sts δ' Φ }) : DSs X (st :: sts) δ Φ := fun F R H σ E s k =>
  (pss_cons psW pssW).w (h F R H σ { E with nx := wSs X sts E } s ⟨fun R' H' σ' δ' t s' q => q F R' H' σ' E s' (k.tr t), k.rt, k.ro, k.bk, k.ct⟩)
theorem ds_ret (h : DE X e δ d δ1) (q : Φ.rt d δ1) : DS X (.Return (some e) pos) δ Φ := fun F R H σ E s k => (ps_ret peW).w (h F R H σ _ s fun v R1 H1 t1 s1 iv => k.rt R1 H1 σ δ1 v d t1 s1 iv q)
theorem ds_retO (h : DO X e δ ds δ1) (q : Φ.ro ds δ1) : DS X (.Return (some e) pos) δ Φ := fun F R H σ E s k => (ps_ret peW).w (h F R H σ _ s fun p xs R1 H1 t1 s1 hF hR hp ia no => k.ro R1 H1 σ δ1 p xs ds t1 s1 hF hR hp ia no q)
theorem ds_retN (q : Φ.rt .non δ) : DS X (.Return none pos) δ Φ := fun F R H σ E s k => (ps_retN).w (k.rt R H σ δ .non .non (Tr.refl _ _) s .non q)
theorem ds_expr (h : DE X e δ d δ1) (q : Φ.nx δ1) (hs : swapsWith e none pos.line X.env = pure false := by rfl) : DS X (.Expr e pos) δ Φ := fun F R H σ E s k => (ps_expr peW hs).w (h F R H σ _ s fun v R1 H1 t1 s1 _ => k.nx R1 H1 σ δ1 t1 s1 q)
theorem ds_if {m : Bool} {xs ys : List Stmt} (hc : DT X c δ m δ1) (ha : m = true → DSs X xs δ1 Φ) (hb : m = false → DSs X ys δ1 Φ) : DS X (.If c xs ys pos) δ Φ := fun F R H σ E s k =>
  (ps_if ptW pssW pssW).w (hc F R H σ _ s fun R1 H1 t1 s1 => by
    cases m with
    | true =>
      rw [if_pos rfl]
      exact ha rfl F R1 H1 σ E s1 (k.tr t1)
    | false =>
      rw [if_neg Bool.false_ne_true]
      exact hb rfl F R1 H1 σ E s1 (k.tr t1))
theorem ds_set {pos' : Pos} (i : Nat) (h : DE X e δ d δ1) (q : Φ.nx (δ1.set i (.dat d))) (hN : X.N.Nodup := by first | assumption | decide) (hi : X.N[i]? = some x := by rfl) (hx : Loc X.env.scope x := by first | exact Or.inl rfl | exact Or.inr rfl)
    (hs : swapsWith e (some (.Name x pos')) pos.line X.env = pure false := by rfl) (hf : X.fn x = true ∨ X.env.scope.names.lookup x = some .local := by first | exact .inl rfl | exact .inr rfl) : DS X (.Assign [.Name x pos'] e pos) δ Φ := fun F R H σ E s k =>
  (ps_set hN hi hx peW hs hf).w (h F R H σ _ s fun v R1 H1 t1 s1 iv => k.nx R1 H1 _ _ t1 (s1.setD iv) q)
theorem ds_setO {pos' : Pos} (i : Nat) (h : DO X e δ ds δ1) (q : ∀ p, Φ.nx (δ1.set i (.own p ds))) (hN : X.N.Nodup := by first | assumption | decide) (hi : X.N[i]? = some x := by rfl) (hx : Loc X.env.scope x := by first | exact Or.inl rfl | exact Or.inr rfl)
    (hs : swapsWith e (some (.Name x pos')) pos.line X.env = pure false := by rfl) (hf : X.fn x = true ∨ X.env.scope.names.lookup x = some .local := by first | exact .inl rfl | exact .inr rfl) : DS X (.Assign [.Name x pos'] e pos) δ Φ := fun F R H σ E s k =>
  (ps_set hN hi hx peW hs hf).w (h F R H σ _ s fun p xs R1 H1 t1 s1 hF hR hp ia no => k.nx R1 H1 _ _ t1 (s1.setO hF hR hp ia no) (q p))
theorem ds_pass (q : Φ.nx δ) : DS X (.Pass pos) δ Φ := fun F R H σ E s k => (ps_pass).w (k.nx R H σ δ (Tr.refl _ _) s q)
theorem ds_break (q : Φ.bk δ) : DS X (.Break pos) δ Φ := fun F R H σ E s k => (ps_break).w (k.bk R H σ δ (Tr.refl _ _) s q)
theorem ds_continue (q : Φ.ct δ) : DS X (.Continue pos) δ Φ := fun F R H σ E s k => (ps_continue).w (k.ct R H σ δ (Tr.refl _ _) s q)
theorem dss_never (h : False) : DSs X sts δ Φ := h.elim
end
end Dy

/-! part Ly3 -/
namespace Dy
open PySem PySem.Spec PyProof.Rows L2

/-! what is walked -/
section
variable {X : Cx} {e tg : Expr} {es : List Expr} {δ δ1 δ2 : List Sl} {items : List D} {p pos : Pos}
theorem wlk_list {K : PySem.W.Frag} {R : Hp} {a : Addr} {xs : List V} {items : List D} (h : SqL K R a xs) (ia : IsA K R xs items) : Wlk K (Itl K a) R items :=
  ⟨fun H e => ⟨xs, same_sqL e h, Nat.le_of_eq ia.len⟩, fun i H e hi => ⟨xs, xs[i]'(by rw [ia.len]; exact hi), same_sqL e h, List.getElem?_eq_getElem _⟩, fun i d H x H' R2 e1 e2 hd y => by
    obtain ⟨v, h1, h2⟩ := ia.get hd
    have q := y.2 xs (same_sqL (e1.trans e2) h)
    rw [h1] at q
    cases q
    exact .inl ⟨y.1, h2.mono e1⟩⟩
theorem wlk_tup {K : PySem.W.Frag} {R : Hp} {a : Addr} {xs : List V} {items : List D} (h : SqT K R a xs) (ia : IsA K R xs items) : Wlk K (Itt K a) R items :=
  ⟨fun H e => ⟨xs, same_sqT e h, Nat.le_of_eq ia.len⟩, fun i H e hi => ⟨xs, xs[i]'(by rw [ia.len]; exact hi), same_sqT e h, List.getElem?_eq_getElem _⟩, fun i d H x H' R2 e1 e2 hd y => by
    obtain ⟨v, h1, h2⟩ := ia.get hd
    have q := y.2 xs (same_sqT (e1.trans e2) h)
    rw [h1] at q
    cases q
    exact .inl ⟨y.1, h2.mono e1⟩⟩
theorem di_list (h : DE X e δ (.lst items) δ1) : DI X tg e δ items δ1 := fun F R H σ Z s k =>
  (pi_list peW).w (h F R H σ _ s fun x R1 H1 t1 s1 ix => by
    cases ix with
    | lst hq ia => exact ⟨_, rfl, ⟨_, same_sqL s1.rg (SqL.of hq)⟩, k _ R1 H1 t1 s1 (wlk_list (SqL.of hq) ia)⟩)
theorem di_rol (h : DE X e δ (.rol items) δ1) : DI X tg e δ items δ1 := fun F R H σ Z s k =>
  (pi_list peW).w (h F R H σ _ s fun x R1 H1 t1 s1 ix => by
    cases ix with
    | rol hq ia => exact ⟨_, rfl, ⟨_, same_sqL s1.rg hq⟩, k _ R1 H1 t1 s1 (wlk_list hq ia)⟩)
theorem di_tup (h : DE X e δ (.tup items) δ1) : DI X tg e δ items δ1 := fun F R H σ Z s k =>
  (pi_tup peW).w (h F R H σ _ s fun x R1 H1 t1 s1 ix => by
    cases ix with
    | tup hq ia => exact ⟨_, rfl, ⟨_, same_sqT s1.rg hq⟩, k _ R1 H1 t1 s1 (wlk_tup hq ia)⟩)
theorem wlk_range {K : PySem.W.Frag} {R : Hp} {lo : Int} {n : Nat} : Wlk K (Itr lo n) R ((List.range n).map fun i : Nat => D.int (lo + (i : Int))) :=
  ⟨fun H _ => by show n ≤ _; simp, fun i H _ hi => by show i < n; simpa using hi, fun i d H x H' R2 _ _ hd y => by
    obtain ⟨e1, e2⟩ := y
    have hi : i < n := by
      have := (List.getElem?_eq_some_iff.mp hd).1
      simpa using this
    rw [List.getElem?_map, List.getElem?_range hi] at hd
    cases hd
    rw [e2]
    exact .inl ⟨e1, .int _⟩⟩
theorem di_range1 {a : Expr} {n : Int} (hg : Gl X "range") (hm : X.mg "range" = none) (h : DA X [a] δ [.int n] δ1) (hb : -1000000 ≤ n ∧ n ≤ 1000000) (hs : starEach [a] X.env = [(false, eval a X.env)] := by exact st_any rfl) :
    DI X tg (.Call (.Name "range" p) [a] [] pos) δ ((List.range n.toNat).map fun i : Nat => D.int (i : Int)) δ1 := fun F R H σ Z s k =>
  (pi_range1 hg hm paW hs).w (h F R H σ _ s fun vs R1 H1 t1 s1 ia => by
    cases ia with
    | cons i1 i2 =>
      cases i1
      cases i2
      refine ⟨n, rfl, by omega, by omega, k _ R1 H1 t1 s1 ?_⟩
      have w := wlk_range (K := X.K) (R := R1) (lo := 0) (n := n.toNat)
      simp only [Int.zero_add] at w
      exact w)
theorem di_range2 {a b : Expr} {m n : Int} (hg : Gl X "range") (hm : X.mg "range" = none) (h : DA X [a, b] δ [.int m, .int n] δ2) (hb : (-1000000 ≤ m ∧ m ≤ 1000000) ∧ -1000000 ≤ n ∧ n ≤ 1000000)
    (hs : starEach [a, b] X.env = [(false, eval a X.env), (false, eval b X.env)] := by rfl) (hs2 : starEach [b] X.env = [(false, eval b X.env)] := by exact st_any rfl) :
    DI X tg (.Call (.Name "range" p) [a, b] [] pos) δ ((List.range (n - m).toNat).map fun i : Nat => D.int (m + (i : Int))) δ2 := fun F R H σ Z s k =>
  (pi_range2 hg hm paW hs hs2).w (h F R H σ _ s fun vs R1 H1 t1 s1 ia => by
    cases ia with
    | cons i1 i2 =>
      cases i2 with
      | cons i2 i3 =>
        cases i1
        cases i2
        cases i3
        exact ⟨m, n, rfl, ⟨by omega, by omega, by omega, by omega⟩, k _ R1 H1 t1 s1 wlk_range⟩)
theorem zipW_get {α β γ : Type} {f : α → β → γ} : ∀ {xs : List α} {ys : List β} {i : Nat} {z : γ}, (List.zipWith f xs ys)[i]? = some z → ∃ x y, xs[i]? = some x ∧ ys[i]? = some y ∧ z = f x y
  | [], _, _, _, h => by simp at h
  | _ :: _, [], _, _, h => by simp at h
  | x :: xs, y :: ys, 0, z, h => by
    simp at h
    exact ⟨x, y, rfl, rfl, h.symm⟩
  | x :: xs, y :: ys, i + 1, z, h => by
    simp only [List.zipWith_cons_cons, List.getElem?_cons_succ] at h
    obtain ⟨a, b, h1, h2, h3⟩ := zipW_get h
    exact ⟨a, b, by simpa using h1, by simpa using h2, h3⟩
theorem wlk_zipL {K : PySem.W.Frag} {R : Hp} {a b : Addr} {xs ys : List V} {ds es : List D} (h1 : SqL K R a xs) (h2 : SqL K R b ys) (i1 : IsA K R xs ds) (i2 : IsA K R ys es) : Wlk K (Itz K a b) R (List.zipWith (fun x y => D.tup [x, y]) ds es) :=
  ⟨fun H e => ⟨xs, ys, same_sqL e h1, same_sqL e h2, by rw [List.length_zipWith, i1.len, i2.len]; omega⟩, fun i H e hi => by
    rw [List.length_zipWith] at hi
    exact ⟨xs, ys, xs[i]'(by rw [i1.len]; omega), ys[i]'(by rw [i2.len]; omega), same_sqL e h1, same_sqL e h2, List.getElem?_eq_getElem _, List.getElem?_eq_getElem _⟩,
    fun i d H x H' R2 e1 e2 hd y => by
      obtain ⟨T, x1, y1, rfl, hT, rfl, f1, f2⟩ := y
      obtain ⟨d1, d2, g1, g2, rfl⟩ := zipW_get hd
      obtain ⟨v1, q1, j1⟩ := i1.get g1
      obtain ⟨v2, q2, j2⟩ := i2.get g2
      have z1 := f1 xs (same_sqL (e1.trans e2) h1)
      have z2 := f2 ys (same_sqL (e1.trans e2) h2)
      have w1 := Option.some.inj (q1.symm.trans z1)
      have w2 := Option.some.inj (q2.symm.trans z2)
      subst w1
      subst w2
      have hR : R2 T = none := e2.free hT
      have m : Same R2 (upd R2 T (.tup [v1, v2])) := fun b u e => by rw [upd_ne (ne_of_none e hR)]; exact e
      exact .inr ⟨T, _, hT, rfl, .tup (.inl (.inl upd_same)) (.cons (j1.mono (e1.trans m)) (.cons (j2.mono (e1.trans m)) .nil))⟩⟩
theorem wlk_zipT {K : PySem.W.Frag} {R : Hp} {a b : Addr} {xs ys : List V} {ds es : List D} (h1 : SqT K R a xs) (h2 : SqT K R b ys) (i1 : IsA K R xs ds) (i2 : IsA K R ys es) : Wlk K (RZ.ItzT K a b) R (List.zipWith (fun x y => D.tup [x, y]) ds es) :=
  ⟨fun H e => ⟨xs, ys, same_sqT e h1, same_sqT e h2, by rw [List.length_zipWith, i1.len, i2.len]; omega⟩, fun i H e hi => by
    rw [List.length_zipWith] at hi
    exact ⟨xs, ys, xs[i]'(by rw [i1.len]; omega), ys[i]'(by rw [i2.len]; omega), same_sqT e h1, same_sqT e h2, List.getElem?_eq_getElem _, List.getElem?_eq_getElem _⟩,
    fun i d H x H' R2 e1 e2 hd y => by
      obtain ⟨T, x1, y1, rfl, hT, rfl, f1, f2⟩ := y
      obtain ⟨d1, d2, g1, g2, rfl⟩ := zipW_get hd
      obtain ⟨v1, q1, j1⟩ := i1.get g1
      obtain ⟨v2, q2, j2⟩ := i2.get g2
      have z1 := f1 xs (same_sqT (e1.trans e2) h1)
      have z2 := f2 ys (same_sqT (e1.trans e2) h2)
      have w1 := Option.some.inj (q1.symm.trans z1)
      have w2 := Option.some.inj (q2.symm.trans z2)
      subst w1
      subst w2
      have hR : R2 T = none := e2.free hT
      have m : Same R2 (upd R2 T (.tup [v1, v2])) := fun b u e => by rw [upd_ne (ne_of_none e hR)]; exact e
      exact .inr ⟨T, _, hT, rfl, .tup (.inl (.inl upd_same)) (.cons (j1.mono (e1.trans m)) (.cons (j2.mono (e1.trans m)) .nil))⟩⟩
theorem di_zipL {a b : Expr} {tpos : Pos} {elts : List Expr} {kk : Nat} {ds gs : List D} (hg : Gl X "zip") (hm : X.mg "zip" = none) (h : DA X [a, b] δ [.lst ds, .lst gs] δ2)
    (hs : starEach [a, b] X.env = (false, eval a X.env) :: starEach [b] X.env := by exact st_any rfl) (hpl : (backTo pos (starEach [b] X.env)).any (·.1) = false := by rfl) :
    DI X (.Tuple elts kk tpos) (.Call (.Name "zip" p) [a, b] [] pos) δ (List.zipWith (fun x y => D.tup [x, y]) ds gs) δ2 := fun F R H σ Z s k =>
  (RZ.pi_zipA hg hm paW hs hpl).w (h F R H σ _ s fun vs R1 H1 t1 s1 ia => by
    cases ia with
    | cons i1 i2 =>
      cases i2 with
      | cons i2 i3 =>
        cases i3
        cases i1 with
        | lst q1 j1 =>
          cases i2 with
          | lst q2 j2 => exact ⟨_, _, _, _, rfl, .inl ⟨same_sqL s1.rg (SqL.of q1), same_sqL s1.rg (SqL.of q2), k _ R1 H1 t1 s1 (wlk_zipL (SqL.of q1) (SqL.of q2) j1 j2)⟩⟩)
theorem di_zipT {a b : Expr} {tpos : Pos} {elts : List Expr} {kk : Nat} {ds gs : List D} (hg : Gl X "zip") (hm : X.mg "zip" = none) (h : DA X [a, b] δ [.tup ds, .tup gs] δ2)
    (hs : starEach [a, b] X.env = (false, eval a X.env) :: starEach [b] X.env := by exact st_any rfl) (hpl : (backTo pos (starEach [b] X.env)).any (·.1) = false := by rfl) :
    DI X (.Tuple elts kk tpos) (.Call (.Name "zip" p) [a, b] [] pos) δ (List.zipWith (fun x y => D.tup [x, y]) ds gs) δ2 := fun F R H σ Z s k =>
  (RZ.pi_zipA hg hm paW hs hpl).w (h F R H σ _ s fun vs R1 H1 t1 s1 ia => by
    cases ia with
    | cons i1 i2 =>
      cases i2 with
      | cons i2 i3 =>
        cases i3
        cases i1 with
        | tup q1 j1 =>
          cases i2 with
          | tup q2 j2 => exact ⟨_, _, _, _, rfl, .inr ⟨same_sqT s1.rg q1, same_sqT s1.rg q2, k _ R1 H1 t1 s1 (wlk_zipT q1 q2 j1 j2)⟩⟩)
end

/-! targets -/
section
variable {X : Cx} {e tg : Expr} {es : List Expr} {δ δ1 δ2 : List Sl} {d : D} {ds : List D} {p pos : Pos} {x : Str}
theorem dg_name (i : Nat) (hN : X.N.Nodup := by first | assumption | decide) (hi : X.N[i]? = some x := by rfl) (hx : Loc X.env.scope x := by first | exact Or.inl rfl | exact Or.inr rfl)
    (hf : X.fn x = true ∨ X.env.scope.names.lookup x = some .local := by first | exact .inl rfl | exact .inr rfl) : DG X (.Name x pos) d [i] δ (δ.set i (.dat d)) := fun F R H σ v Q s iv k =>
  (pg_name hN hi hx hf).w (k (σ.set i (some v)) (by simp) (fun j hj => List.getElem?_set_ne fun e => hj (by rw [e]; exact List.mem_cons_self)) (s.setD iv))
/-- several targets -/
def DGs (X : Cx) (tgs : List Expr) (ds : List D) (ws : List Nat) (δ δ' : List Sl) : Prop := ∀ (F R H : Hp) (σ : L2.St) (vs : List V) (Q : L2.St → Hp → Prop), StOk X.K F R H σ δ → IsA X.K R vs ds →
  (∀ σ', σ'.length = σ.length → (∀ j, j ∉ ws → σ'[j]? = σ[j]?) → StOk X.K F R H σ' δ' → Q σ' H) → ∃ t, PGs X tgs t ∧ t vs σ H Q
theorem dgs_nil : DGs X [] [] [] δ δ := fun F R H σ vs Q s ia k => by
  cases ia
  exact ⟨_, pgs_nil, rfl, k σ rfl (fun _ _ => rfl) s⟩
/-- one after another, where the first one's rest is told for any slots -/
theorem pgs_w {tgs : List Expr} : PGs X tgs (fun vs σ H Q => ∃ t, PGs X tgs t ∧ t vs σ H Q) := ⟨fun pins s σ H vs us Q I r ⟨t, p, h⟩ => p.run pins s σ H vs us Q I r h⟩
theorem dgs_cons {tgs : List Expr} {ws ws2 : List Nat} (h1 : DG X tg d ws δ δ1) (h2 : DGs X tgs ds ws2 δ1 δ2) (hs : (assignEach (tg :: tgs) X.env).map (·.2) = assign tg X.env :: (assignEach tgs X.env).map (·.2) := by rfl) : DGs X (tg :: tgs) (d :: ds) (ws ++ ws2) δ δ2 := fun F R H σ vs Q s ia k => by
  cases ia with
  | cons i1 i2 =>
    refine ⟨_, pgs_cons pgW pgs_w hs, _, _, rfl, h1 F R H σ _ _ s i1 fun σ1 l1 g1 s1 => h2 F R H σ1 _ Q s1 i2 fun σ2 l2 g2 s2 => k σ2 (l2.trans l1) (fun j hj => ?_) s2⟩
    rw [g2 j fun z => hj (List.mem_append_right _ z), g1 j fun z => hj (List.mem_append_left _ z)]
theorem dg_tup {tgs : List Expr} {j : Nat} {ws : List Nat} (h : DGs X tgs ds ws δ δ1) (hc : X.calm = true := by rfl) (hn : (assignEach tgs X.env).length = ds.length := by rfl) (hst : (assignEach tgs X.env).findIdx? (·.1) = none := by rfl) : DG X (.Tuple tgs j pos) (.tup ds) ws δ δ1 := fun F R H σ v Q s iv k => by
  cases iv with
  | tup hq ia => exact (pg_tup hc pgs_w hn hst).w ⟨_, _, rfl, same_sqT s.rg hq, ia.len, h F R H σ _ Q s ia k⟩
/-- x, y, .. = e -/
theorem ds_asg {ws : List Nat} {Φ : DD} (h : DE X e δ d δ1) (g : DG X tg d ws δ1 δ2) (q : Φ.nx δ2) (hs : swapsWithSole [tg] e pos.line X.env = pure false := by rfl) (hw : swappedStores [tg] e X.env = pure none := by rfl)
    (h1 : (assignEach [tg] X.env).map (·.2) = [assign tg X.env] := by rfl) : DS X (.Assign [tg] e pos) δ Φ := fun F R H σ E s k =>
  (ps_asg peW pgW hs hw h1).w (h F R H σ _ s fun v R1 H1 t1 s1 iv => g F R1 H1 σ v _ s1 iv fun σ2 _ _ s2 => k.nx R1 H1 σ2 δ2 t1 s2 q)
/-- a, b = x, y -/
theorem ds_par {i j : Nat} {y : Str} {a b : Expr} {px py pt : Pos} {kt k2 : Nat} {pt2 : Pos} {d1 d2 : D} {Φ : DD} (h : DA X [a, b] δ [d1, d2] δ1) (q : Φ.nx ((δ1.set i (.dat d1)).set j (.dat d2))) (hi : X.N[i]? = some x) (hj : X.N[j]? = some y) (hij : i ≠ j := by decide)
    (hc : X.calm = true := by rfl) (hN : X.N.Nodup := by first | assumption | decide) (hx : X.env.scope.names.lookup x = some .local := by rfl) (hy : X.env.scope.names.lookup y = some .local := by rfl)
    (hw : swappedStores [.Tuple [.Name x px, .Name y py] kt pt] (.Tuple [a, b] k2 pt2) X.env = pure (some [x, y]) := by rfl) (hs : swapsWithSole [.Tuple [.Name x px, .Name y py] kt pt] (.Tuple [a, b] k2 pt2) pos.line X.env = pure false := by rfl) :
    DS X (.Assign [.Tuple [.Name x px, .Name y py] kt pt] (.Tuple [a, b] k2 pt2) pos) δ Φ := fun F R H σ E s k =>
  (ps_par hc hN hi hj hij hx hy paW hw hs).w (h F R H σ _ s fun vs R1 H1 t1 s1 ia => by
    cases ia with
    | cons i1 i2 =>
      cases i2 with
      | cons i2 i3 =>
        cases i3
        exact ⟨_, _, rfl, k.nx R1 H1 _ _ t1 ((s1.setD i1).setD i2) q⟩)
end

/-! for -/
section
variable {X : Cx} {tg it : Expr} {body : List Stmt} {δ δ1 : List Sl} {items : List D} {pos : Pos} {Φ : DD}
theorem ds_for (hi : DI X tg it δ items δ1) (Pv : Nat → List Sl → Prop) (h0 : Pv 0 δ1)
    (hs : ∀ i d δ2, items[i]? = some d → Pv i δ2 → ∃ ws δ3, DG X tg d ws δ2 δ3 ∧ DSs X body δ3 { Φ with nx := Pv (i + 1), ct := Pv (i + 1), bk := Φ.nx }) (hd : ∀ δ2, Pv items.length δ2 → Φ.nx δ2)
    (hc : X.calm = true := by rfl) (hp : PassesOwn (model X.prog X.w) X.A X.env X.xe := by exact PassesOwn.never) (hf : ∀ x, foldedSetIterable it X.env x = pure x := by intro _; rfl) : DS X (.For tg it body [] pos) δ Φ := fun F R H σ E s k =>
  (ps_for hp hc piW pgW pssW hf).w (hi F R H σ _ s fun J R1 H1 t1 s1 w => by
    refine ⟨fun i m σ' H' => ∃ R' δ', Tr F R1 R' ∧ StOk X.K F R' H' σ' δ' ∧ Pv i δ' ∧ i ≤ items.length ∧ m = items.length - i, ⟨_, R1, δ1, Tr.refl _ _, s1, h0, Nat.zero_le _, rfl⟩, ?_⟩
    rintro i m σ2 H2 ⟨R2, δ2, t2, s2, p2, hi2, rfl⟩
    have rg2 : Same R1 H2 := t2.ex.trans s2.rg
    by_cases hlt : i < items.length
    · refine .inr ⟨w.go i H2 rg2 hlt, fun σ' H' => ∃ R' δ', Tr F R1 R' ∧ StOk X.K F R' H' σ' δ' ∧ Pv (i + 1) δ', fun σ' H' ⟨R', δ', a, b, c⟩ => ⟨items.length - (i + 1), by omega, R', δ', a, b, c, hlt, rfl⟩, fun x H3 y => ?_⟩
      obtain ⟨ws, δ3, g, bd⟩ := hs i _ δ2 (List.getElem?_eq_getElem hlt) p2
      have fin : ∀ {R3 : Hp}, Tr F R1 R3 → StOk X.K F R3 H3 σ2 δ2 → Is X.K R3 x items[i] → wG X tg x σ2 H3 fun σ4 H4 => wSs X body { E with nx := fun σ' H' => ∃ R' δ', Tr F R1 R' ∧ StOk X.K F R' H' σ' δ' ∧ Pv (i + 1) δ', ct := fun σ' H' => ∃ R' δ', Tr F R1 R' ∧ StOk X.K F R' H' σ' δ' ∧ Pv (i + 1) δ', bk := E.nx } σ4 H4 :=
        fun {R3} t3 s3 ix => g F R3 H3 σ2 x _ s3 ix fun σ4 _ _ s4 => bd F R3 H3 σ4 _ s4
          ⟨fun R' H' σ' δ' a b c => ⟨R', δ', t3.trans a, b, c⟩, ((k.tr t1).tr t3).rt, ((k.tr t1).tr t3).ro, fun R' H' σ' δ' a b c => ((k.tr t1).tr t3).nx R' H' σ' δ' a b c, fun R' H' σ' δ' a b c => ⟨R', δ', t3.trans a, b, c⟩⟩
      rcases w.yld i _ H2 x H3 R2 t2.ex s2.rg (List.getElem?_eq_getElem hlt) y with ⟨rfl, ix⟩ | ⟨T, o, hT, rfl, ix⟩
      · exact fin t2 s2 ix
      · obtain ⟨s3, t3⟩ := s2.new (o := o) hT
        exact fin (t2.trans t3) s3 ix
    · have e : i = items.length := by omega
      subst e
      exact .inl ⟨w.stop H2 rg2, k.nx R2 H2 σ2 δ2 (t1.trans t2) s2 (hd δ2 p2)⟩)
end

/-! comprehensions -/
def wipeD (δ : List Sl) : List Nat → List Sl
  | [] => δ
  | v :: vs => (wipeD δ vs).set v .no
section
variable {K : PySem.W.Frag} {F R H : Hp} {σ : L2.St} {δ : List Sl}
theorem StOk.wipe : ∀ (vs : List Nat), StOk K F R H σ δ → StOk K F R H (L2.wipe σ vs) (wipeD δ vs)
  | [], s => s
  | v :: vs, s => (StOk.wipe vs s).setN
theorem StOk.unwipe {vs : List Nat} (s : StOk K F R H (L2.wipe σ vs) δ) : StOk K F R H σ δ := by
  refine ⟨s.fr, s.rg, by rw [← s.ln, wipe_length], fun i x q => ?_, s.ap, s.ap2⟩
  have z := s.at_ i x q
  cases x with
  | no => trivial
  | dat d =>
    obtain ⟨v, e, iv⟩ := z
    exact ⟨v, (wipe_some e).1, iv⟩
  | own p ds => exact ⟨(wipe_some z.1).1, z.2⟩
  | odc hf p ks vs => exact ⟨(wipe_some z.1).1, z.2⟩
theorem wipe_at {i : Nat} : ∀ {vs : List Nat}, i ∈ vs → (L2.wipe σ vs)[i]? = if i < σ.length then some none else none
  | [], h => absurd h List.not_mem_nil
  | v :: vs, h => by
    by_cases e : v = i
    · subst e
      show ((L2.wipe σ vs).set v none)[v]? = _
      by_cases hl : v < σ.length
      · rw [if_pos hl, List.getElem?_set_self (by rw [wipe_length]; exact hl)]
      · rw [if_neg hl, List.getElem?_eq_none (by rw [List.length_set, wipe_length]; omega)]
    · show ((L2.wipe σ vs).set v none)[i]? = _
      rw [List.getElem?_set_ne e]
      exact wipe_at ((List.mem_cons.mp h).resolve_left fun z => e z.symm)
theorem wipe_out2 {i : Nat} : ∀ {vs : List Nat}, i ∉ vs → (L2.wipe σ vs)[i]? = σ[i]?
  | [], _ => rfl
  | v :: vs, h => by
    show ((L2.wipe σ vs).set v none)[i]? = _
    rw [List.getElem?_set_ne fun e => h (by rw [e]; exact List.mem_cons_self)]
    exact wipe_out2 fun z => h (List.mem_cons_of_mem _ z)
theorem wipe_same {σ2 : L2.St} {vs ws : List Nat} (hl : σ2.length = (L2.wipe σ vs).length) (h : ∀ j, j ∉ ws → σ2[j]? = (L2.wipe σ vs)[j]?) (hw : ∀ j ∈ ws, j ∈ vs) : L2.wipe σ2 vs = L2.wipe σ vs := by
  refine List.ext_getElem? fun i => ?_
  rw [wipe_length] at hl
  by_cases hi : i ∈ vs
  · rw [wipe_at hi, wipe_at hi, hl]
  · rw [wipe_out2 hi, h i fun z => hi (hw i z)]
theorem StOk.write {p : Addr} {o : HO} (s : StOk K F R H σ δ) (hF : F p = none) (hR : R p = none) (no : ∀ (i : Nat) (es : List D), δ[i]? ≠ some (.own p es)) (no2 : ∀ (i : Nat) (hf : NestedKey → Int) (ks vs : List D), δ[i]? ≠ some (.odc hf p ks vs)) : StOk K F R (upd H p o) σ δ := by
  refine ⟨fun b u e => ?_, fun b u e => ?_, s.ln, fun i x q => ?_, s.ap, s.ap2⟩
  · rw [upd_ne (ne_of_none e hF)]
    exact s.fr b u e
  · rw [upd_ne (ne_of_none e hR)]
    exact s.rg b u e
  · have z := s.at_ i x q
    cases x with
    | no => trivial
    | dat d => exact z
    | own r ds =>
      obtain ⟨e, f, g, xs, hx, a⟩ := z
      have hn : r ≠ p := fun w => no i ds (w ▸ q)
      exact ⟨e, f, g, xs, by rw [upd_ne hn]; exact hx, a⟩
    | odc hf r ks vs =>
      obtain ⟨e, f, g, M, hx, a⟩ := z
      have hn : r ≠ p := fun w => no2 i hf ks vs (w ▸ q)
      exact ⟨e, f, g, M, by rw [upd_ne hn]; exact hx, a⟩
end
section
variable {X : Cx}
/-- within the block of a comprehension, whatever its frame -/
abbrev Bk (X : Cx) (scope : Scope) (P : Cx → Prop) : Prop := ∀ (s : Shared) (H : Hp) (C : Addr) (cl : List (Str × Addr)) (fp : List Addr), P (X.blk s H scope (compEnvC scope cl C X.env) fp)
def bG (X : Cx) (scope : Scope) (tg : Expr) : TG := fun v σ H Q => Bk X scope fun Y => wG Y tg v σ H Q
def bT (X : Cx) (scope : Scope) (ifs : List Expr) : TT := fun σ H Q => Bk X scope fun Y => wTs Y ifs σ H Q
def bE (X : Cx) (scope : Scope) (e : Expr) : TE := fun σ H Q => Bk X scope fun Y => wE Y e σ H Q
theorem bG_ok {scope : Scope} {tg : Expr} (s : Shared) (H : Hp) (C : Addr) (cl : List (Str × Addr)) (fp : List Addr) : PG (X.blk s H scope (compEnvC scope cl C X.env) fp) tg (bG X scope tg) :=
  ⟨fun pins s' σ H' v u Q I r h => (pgW).run pins s' σ H' v u Q I r (h s H C cl fp)⟩
theorem bT_ok {scope : Scope} {ifs : List Expr} (s : Shared) (H : Hp) (C : Addr) (cl : List (Str × Addr)) (fp : List Addr) : PTs (X.blk s H scope (compEnvC scope cl C X.env) fp) ifs (bT X scope ifs) :=
  ⟨fun pins s' σ H' Q I h => (ptsW).run pins s' σ H' Q I (h s H C cl fp)⟩
theorem bE_ok {scope : Scope} {e : Expr} (s : Shared) (H : Hp) (C : Addr) (cl : List (Str × Addr)) (fp : List Addr) : PE (X.blk s H scope (compEnvC scope cl C X.env) fp) e (bE X scope e) :=
  ⟨fun pins s' σ H' Q I h => (peW).run pins s' σ H' Q I (h s H C cl fp)⟩
theorem lc_read {tg it elt : Expr} {ifs : List Expr} {scope : Scope} {vs : List Nat} {δ δ1 δ' : List Sl} {items ds : List D} (hi : DI X tg it δ items δ1) (Pv : Nat → List D → List Sl → Prop) (h0 : Pv 0 [] (wipeD δ1 vs))
    (hs : ∀ i d acc δ2, items[i]? = some d → Pv i acc δ2 → ∃ ws δ3 b δ4, (∀ j ∈ ws, j ∈ vs) ∧ (Bk X scope fun Y => DG Y tg d ws δ2 δ3) ∧ (Bk X scope fun Y => DTs Y ifs δ3 b δ4) ∧
      if b = true then ∃ y δ5, (Bk X scope fun Y => DE Y elt δ4 y δ5) ∧ Pv (i + 1) (acc ++ [y]) (wipeD δ5 vs) else Pv (i + 1) acc (wipeD δ4 vs))
    (hd : ∀ acc δ2, Pv items.length acc δ2 → acc = ds ∧ δ2 = δ') (hz : items.length ≤ 1000000) {F R H : Hp} {σ : L2.St} {Q : VK} (s : StOk X.K F R H σ δ)
    (k : ∀ p xs R2 H2, Tr F R R2 → StOk X.K F R2 H2 σ δ' → F p = none → R2 p = none → H2 p = some (.lst xs) → IsA X.K R2 xs ds → (∀ (i : Nat) (es : List D), δ'[i]? ≠ some (.own p es)) → Q (.ref p) H2) :
    tLc (wI X tg it) (bG X scope tg) (bT X scope ifs) (bE X scope elt) vs σ H Q := by
  refine hi F R H σ _ s fun J R1 H1 t1 s1 w D hD => ?_
  have hF : F D = none := s1.fr.free hD
  have hR1 : R1 D = none := s1.rg.free hD
  refine ⟨fun i m H' => ∃ R' acc xs δ2, Tr F R1 R' ∧ StOk X.K F R' H' (L2.wipe σ vs) δ2 ∧ R' D = none ∧ H' D = some (.lst xs) ∧ IsA X.K R' xs acc ∧ (∀ (i : Nat) (es : List Dy.D), δ2[i]? ≠ some (.own D es)) ∧ Pv i acc δ2 ∧ i ≤ items.length ∧ m = items.length - i ∧ acc.length ≤ i,
    ⟨_, R1, [], [], _, Tr.refl _ _, (s1.off hD).wipe vs, hR1, upd_same, .nil, fun i es q => ?_, h0, Nat.zero_le _, rfl, Nat.le_refl _⟩, ?_⟩
  · obtain ⟨_, _, _, ys, hy, _⟩ := (s1.wipe vs).at_ i _ q
    rw [hD] at hy
    cases hy
  rintro i m H2 ⟨R2, acc, xs, δ2, t2, s2, hR2, hD2, ia, no, p2, hi2, rfl, hacc⟩
  have rg2 : Same R1 H2 := t2.ex.trans s2.rg
  by_cases hlt : i < items.length
  · refine .inr ⟨w.go i H2 rg2 hlt, fun H' => ∃ R' acc xs δ2, Tr F R1 R' ∧ StOk X.K F R' H' (L2.wipe σ vs) δ2 ∧ R' D = none ∧ H' D = some (.lst xs) ∧ IsA X.K R' xs acc ∧ (∀ (i : Nat) (es : List Dy.D), δ2[i]? ≠ some (.own D es)) ∧ Pv (i + 1) acc δ2 ∧ acc.length ≤ i + 1,
      fun H' ⟨R', ac, ys, δ3, a1, a2, a3, a4, a5, a6, a7, a8⟩ => ⟨items.length - (i + 1), by omega, R', ac, ys, δ3, a1, a2, a3, a4, a5, a6, a7, hlt, rfl, a8⟩, fun x H3 y => ?_⟩
    obtain ⟨ws, δ3, b, δ4, hw, g, ts, fin⟩ := hs i _ acc δ2 (List.getElem?_eq_getElem hlt) p2
    -- the turn, from the region with the item
    have go : ∀ {R3 : Hp}, Tr F R1 R3 → StOk X.K F R3 H3 (L2.wipe σ vs) δ2 → Is X.K R3 x items[i] → R3 D = none → H3 D = some (.lst xs) → IsA X.K R3 xs acc →
        bG X scope tg x (L2.wipe σ vs) H3 fun σ2 H4 => L2.wipe σ2 vs = L2.wipe σ vs ∧ bT X scope ifs σ2 H4 fun b H5 => if b = true then bE X scope elt σ2 H5 fun y H6 => ∃ ac, H6 D = some (.lst ac) ∧ ac.length < sizeLine ∧
          (∃ R' acc xs δ2, Tr F R1 R' ∧ StOk X.K F R' (upd H6 D (.lst (ac ++ [y]))) (L2.wipe σ vs) δ2 ∧ R' D = none ∧ (upd H6 D (.lst (ac ++ [y]))) D = some (.lst xs) ∧ IsA X.K R' xs acc ∧ (∀ (i : Nat) (es : List Dy.D), δ2[i]? ≠ some (.own D es)) ∧ Pv (i + 1) acc δ2 ∧ acc.length ≤ i + 1)
          else ∃ R' acc xs δ2, Tr F R1 R' ∧ StOk X.K F R' H5 (L2.wipe σ vs) δ2 ∧ R' D = none ∧ H5 D = some (.lst xs) ∧ IsA X.K R' xs acc ∧ (∀ (i : Nat) (es : List Dy.D), δ2[i]? ≠ some (.own D es)) ∧ Pv (i + 1) acc δ2 ∧ acc.length ≤ i + 1 := by
      intro R3 t3 s3 ix hR3 hD3 ia3 s' H' C cl fp
      obtain ⟨u3, fu⟩ := s3.up
      have hFu : frm H3 δ2 D ≠ none := by
        rw [frm_not no (s3.noC fun hf M z => by rw [hD3] at z; cases z), hD3]
        exact fun z => by cases z
      have hFv : frm H3 δ2 D = some (.lst xs) := by rw [frm_not no (s3.noC fun hf M z => by rw [hD3] at z; cases z), hD3]
      refine g s' H' C cl fp (frm H3 δ2) R3 H3 _ x _ u3 ix fun σ2 l2 g2 u4 => ?_
      have we : L2.wipe σ2 vs = L2.wipe σ vs := wipe_same l2 g2 hw
      refine ⟨we, fun s' H' C cl fp => ts s' H' C cl fp (frm H3 δ2) R3 H3 σ2 _ u4 fun R5 H5 t5 u5 => ?_⟩
      have noq : ∀ {Rq Hq : Hp} {δq : List Sl}, StOk X.K (frm H3 δ2) Rq Hq (L2.wipe σ vs) δq → ∀ (j : Nat) (es : List Dy.D), δq[j]? ≠ some (.own D es) := fun {Rq Hq δq} u j es q => hFu (u.at_ j _ q).2.1
      cases b with
      | false =>
        rw [if_neg Bool.false_ne_true] at fin ⊢
        have u6 := u5.wipe vs
        rw [we] at u6
        exact ⟨R5, acc, xs, _, t3.trans (t5.low fu), u6.low fu, t5.nw D hFu hR3, u5.fr D _ hFv, ia3.mono t5.ex, noq u6, fin, by omega⟩
      | true =>
        rw [if_pos rfl] at fin ⊢
        obtain ⟨yd, δ5, he, pv⟩ := fin
        intro s' H' C cl fp
        refine he s' H' C cl fp (frm H3 δ2) R5 H5 σ2 _ u5 fun yv R6 H6 t6 u6 iy => ?_
        have u7 := u6.wipe vs
        rw [we] at u7
        have t36 := t5.trans t6
        refine ⟨xs, u6.fr D _ hFv, ?_, R6, acc ++ [yd], xs ++ [yv], _, t3.trans (t36.low fu), (u7.low fu).write hF (t36.nw D hFu hR3) (noq u7) (fun j hf ks vs q => hFu (u7.at_ j _ q).2.1), t36.nw D hFu hR3, upd_same, (ia3.mono t36.ex).app (.cons iy .nil), noq u7, pv, ?_⟩
        · rw [ia3.len, sizeLine_eq]
          omega
        · rw [List.length_append]
          exact Nat.succ_le_succ hacc
    rcases w.yld i _ H2 x H3 R2 t2.ex s2.rg (List.getElem?_eq_getElem hlt) y with ⟨rfl, ix⟩ | ⟨T, o, hT, rfl, ix⟩
    · exact go t2 s2 ix hR2 hD2 ia
    · obtain ⟨s3, t3⟩ := s2.new (o := o) hT
      have hn : D ≠ T := ne_of_none hD2 hT
      exact go (t2.trans t3) s3 ix (by rw [upd_ne hn]; exact hR2) (by rw [upd_ne hn]; exact hD2) (ia.mono t3.ex)
  · have e : i = items.length := by omega
    subst e
    obtain ⟨rfl, rfl⟩ := hd acc δ2 p2
    exact .inl ⟨w.stop H2 rg2, k D xs R2 H2 (t1.trans t2) s2.unwipe hF hR2 hD2 ia no⟩
/-- as a value -/
theorem do_lc {tg it elt : Expr} {ifs : List Expr} {scope : Scope} {own : List (Str × Nat)} {pos : Pos} {δ δ1 δ' : List Sl} {items ds : List D} (ok : BlkOk X.N X.env.scope scope own) (hi : DI X tg it δ items δ1) (Pv : Nat → List D → List Sl → Prop) (h0 : Pv 0 [] (wipeD δ1 (own.map (·.2))))
    (hs : ∀ i d acc δ2, items[i]? = some d → Pv i acc δ2 → ∃ ws δ3 b δ4, (∀ j ∈ ws, j ∈ own.map (·.2)) ∧ (Bk X scope fun Y => DG Y tg d ws δ2 δ3) ∧ (Bk X scope fun Y => DTs Y ifs δ3 b δ4) ∧
      if b = true then ∃ y δ5, (Bk X scope fun Y => DE Y elt δ4 y δ5) ∧ Pv (i + 1) (acc ++ [y]) (wipeD δ5 (own.map (·.2))) else Pv (i + 1) acc (wipeD δ4 (own.map (·.2))))
    (hd : ∀ acc δ2, Pv items.length acc δ2 → acc = ds ∧ δ2 = δ') (hz : items.length ≤ 1000000) (hc : X.calm = true := by rfl) (hN : X.N.Nodup := by first | assumption | decide) (hf : ∀ x, foldedSetIterable it X.env x = pure x := by intro _; rfl) :
    DO X (.ListComp elt [⟨tg, it, ifs, 0⟩] scope pos) δ ds δ' := fun F R H σ Q s k =>
  (pe_lc hc hN piW ok bG_ok bT_ok bE_ok hf).w (lc_read hi Pv h0 hs hd hz s k)
/-- name = [..] -/
theorem ds_setLc {i : Nat} {y : Str} {py : Pos} {tg it elt : Expr} {ifs : List Expr} {scope : Scope} {own : List (Str × Nat)} {pos spos : Pos} {δ δ1 δ' : List Sl} {items ds : List D} {Φ : DD} (hy : X.N[i]? = some y) (ok : BlkOk X.N X.env.scope scope own) (hi : DI X tg it δ items δ1)
    (Pv : Nat → List D → List Sl → Prop) (h0 : Pv 0 [] (wipeD δ1 (own.map (·.2))))
    (hs : ∀ i d acc δ2, items[i]? = some d → Pv i acc δ2 → ∃ ws δ3 b δ4, (∀ j ∈ ws, j ∈ own.map (·.2)) ∧ (Bk X scope fun Y => DG Y tg d ws δ2 δ3) ∧ (Bk X scope fun Y => DTs Y ifs δ3 b δ4) ∧
      if b = true then ∃ y δ5, (Bk X scope fun Y => DE Y elt δ4 y δ5) ∧ Pv (i + 1) (acc ++ [y]) (wipeD δ5 (own.map (·.2))) else Pv (i + 1) acc (wipeD δ4 (own.map (·.2))))
    (hd : ∀ acc δ2, Pv items.length acc δ2 → acc = ds ∧ δ2 = δ') (hz : items.length ≤ 1000000) (q : ∀ p, Φ.nx (δ'.set i (.own p ds)))
    (hyl : X.env.scope.names.lookup y = some .local := by rfl) (hsw : swapsWith (.ListComp elt [⟨tg, it, ifs, 0⟩] scope pos) (some (.Name y py)) spos.line X.env = pure true := by exact sw_true rfl rfl rfl (by decide +kernel))
    (hc : X.calm = true := by rfl) (hN : X.N.Nodup := by first | assumption | decide) (hf : ∀ x, foldedSetIterable it X.env x = pure x := by intro _; rfl) :
    DS X (.Assign [.Name y py] (.ListComp elt [⟨tg, it, ifs, 0⟩] scope pos) spos) δ Φ := fun F R H σ E s k =>
  (L2.ps_setLc hc hN hy hyl hsw piW ok bG_ok bT_ok bE_ok hf).w (lc_read hi Pv h0 hs hd hz s fun p xs R1 H1 t1 s1 hF hR hp ia no => k.nx R1 H1 _ _ t1 (s1.setO hF hR hp ia no) (q p))
theorem dts_nil {δ : List Sl} : DTs X [] δ true δ := fun F R H σ Q s k => ⟨_, pts_nil, k R H (Tr.refl _ _) s⟩
theorem dts_one {c : Expr} {δ δ1 : List Sl} {b : Bool} (h : DT X c δ b δ1) : DTs X [c] δ b δ1 := fun F R H σ Q s k => ⟨_, pts_one ptW, h F R H σ Q s k⟩
end
end Dy

/-! part Ly4 -/
namespace Dy
open PySem PySem.Spec PyProof.Rows L2

/-! what stands around a def's body -/
structure Gx (X : Cx) (k : Nat) : Prop where
  rm : Room k X.A
  gd : X.A.guards = some []
/-- a promise by positional values, where no repr is under way -/
def FnG (P : Program) (w : World) (K : PySem.W.Frag) (mg : Str → Option Value) (base : Heap) (CX : CXT) (k : Nat) (f : Addr) (sp : Sp) : Prop :=
  ∀ (A : Around) (outer : List Env) (s : Shared) (H : Hp) (us : List Value) (vs : List V) (Q : VK) (E : XK), Room k A → A.guards = some [] → Env0 P w K mg base A outer s H → Vals vs us → sp vs H Q E →
    codeAny (model P w) A (.call (.ref f) (Args.mk us [])) (CR CX outer P w H s Q E) s
section
variable {P : Program} {w : World} {K : PySem.W.Frag} {mg : Str → Option Value} {base : Heap} {CX : CXT} {j k : Nat} {f : Addr} {sp sp' : Sp}
theorem FnG.mono (F : FnG P w K mg base CX j f sp) (h : j ≤ k) : FnG P w K mg base CX k f sp := fun A outer s H us vs Q E hr => F A outer s H us vs Q E (hr.mono h)
/-- a def without stars, by its body -/
theorem fng_plain {x qual : Str} {st : Stmt} {fd : FuncData} {N ps : List Str} (F : Fun K x qual st f fd) (S : FnScope N ps (defScope st)) (hb : Binds K fd ps []) (len : ∀ vs H Q E, sp vs H Q E → vs.length = ps.length)
    (hbody : ∀ (cdv : Value) (A : Around) (outer : List Env) (s : Shared) (H : Hp) (vs : List V) (Q : VK) (E : XK), Gx (cxOf CX P w K mg base N qual (defScope st) f cdv A outer s H E) k → sp vs H Q E →
      wSs (cxOf CX P w K mg base N qual (defScope st) f cdv A outer s H E) (defBody st) { nx := fun _ H' => Q .non H', rt := Q } (start N vs) H) : FnG P w K mg base CX (k + 1) f sp := by
  intro A outer s H us vs Q E hr hg e0 r hsp
  obtain ⟨oc, od, kV, doc, pm, an, cdv, ct, osl, rfl, lk, hcd⟩ := F.ex
  have hl := len _ _ _ _ hsp
  have KX : K.In s.heap := e0.mod.kin.keeps fun b o e => (e0.bs b o e).1
  refine StX.run_bnd lk hcd S hr e0 (G := fun vs' H2 => vs' = vs ∧ H2 = H ∧ sp vs' H2 Q E) (fun A' Ex Q' h => ?_) fun s2 H2 xs ⟨ex, eH, hq⟩ hr' => ⟨_, pssW, ?_⟩
  · have hl2 : (us ++ []).length = ps.length := by rw [List.append_nil, ← r.length]; exact hl
    have z := hb s us KX hl2
    rw [List.append_nil] at z
    exact z _ _ _ _ (h s H vs us e0 Un.refl rfl (fun _ _ z => z) r hl ⟨rfl, rfl, hsp⟩)
  · subst ex eH
    exact hbody cdv A outer s2 _ _ Q E ⟨hr', hg⟩ hq
/-- def f(a, .., *v) -/
theorem fng_star {x qual : Str} {st : Stmt} {fd : FuncData} {N ps : List Str} {pv : Str} (F : Fun K x qual st f fd) (S : FnScope N (ps ++ [pv]) (defScope st)) (hCX : StX.CXUp CX)
    (hb : ∀ us rest : List Value, us.length = ps.length → bindArgs fd (Args.mk (us ++ rest) []) = (newTuple rest >>= fun t => pure (ps.zip us ++ [(pv, t)])))
    (hbody : ∀ (cdv : Value) (A : Around) (outer : List Env) (s : Shared) (H : Hp) (vs : List V) (Q : VK) (E : XK), Gx (cxOf CX P w K mg base N qual (defScope st) f cdv A outer s H E) k → sp vs H Q E →
      wSs (cxOf CX P w K mg base N qual (defScope st) f cdv A outer s H E) (defBody st) { nx := fun _ H' => Q .non H', rt := Q } (start N vs) H) :
    FnG P w K mg base CX (k + 1) f (fun vs H Q E => ∃ ws rest, vs = ws ++ rest ∧ ws.length = ps.length ∧ rest.length ≤ sizeLine ∧ ∀ p, H p = none → sp (ws ++ [V.ref p]) (upd H p (.tup rest)) Q E) := by
  intro A outer s H us vs Q E hr hg e0 r hsp
  obtain ⟨oc, od, kV, doc, pm, an, cdv, ct, osl, rfl, lk, hcd⟩ := F.ex
  obtain ⟨ws, rest, rfl, hl, hz, hq⟩ := hsp
  obtain ⟨u1, u2, rfl, r1, r2⟩ := StX.vals_split r
  have hn : H s.heap.objs.size = none := e0.hok.fresh (Nat.le_refl _)
  have hl1 : u1.length = ps.length := r1.length.symm.trans hl
  have hl2 : u2.length ≤ sizeLine := Nat.le_trans (Nat.le_of_eq r2.length.symm) hz
  refine StX.run_bnd lk hcd S hr e0 (G := fun xs H2 => ∃ p, H p = none ∧ xs = ws ++ [V.ref p] ∧ H2 = upd H p (.tup rest)) (fun A' Ex Q' h => ?_) fun s2 H2 xs ⟨p, hp, ex, eH⟩ hr' => ⟨_, pssW, ?_⟩
  · rw [hb u1 u2 hl1]
    refine wpAny_bind (wpAny_newTuple (wpAny_pure ?_) hl2)
    have new : ObjOk P w (upd H s.heap.objs.size (.tup rest)) (s.heap.push (Obj.mk (.type "tuple") none (.seq u2.toArray) #[])) s.heap.objs.size (.tup rest) :=
      And.intro hz (Exists.intro u2 (And.intro r2 (Exists.intro _ (And.intro (Heap.get?_push_size _ rfl) (And.intro rfl (Exists.intro _ rfl))))))
    have un : Un (frs outer) [] H (upd H s.heap.objs.size (.tup rest)) s.heap (s.heap.push (Obj.mk (.type "tuple") none (.seq u2.toArray) #[])) := StX.un_laid hn
    have z := h _ _ (ws ++ [V.ref s.heap.objs.size]) (u1 ++ [Value.ref s.heap.objs.size]) (StX.env0_laid e0 new) un rfl (fun e s' => hCX outer s H _ _ E e s' un (fun b o q => Heap.get?_push_of_some _ q) rfl)
      (Vals.append r1 (.cons rfl .nil)) (by rw [List.length_append, List.length_append, hl]; rfl) (Exists.intro _ (And.intro hn (And.intro rfl rfl)))
    rw [List.zip_append hl1.symm] at z
    exact z
  · subst ex eH
    exact hbody cdv A outer s2 _ _ Q E ⟨hr', hg⟩ (hq p hp)
end

/-! calls -/
section
variable {X : Cx} {k : Nat} {f : Addr} {sp : Sp} {CX : CXT} {E : XK} {x : Str} {e : Expr} {es : List Expr} {p pos : Pos}
theorem run_fnG {pins : List (Addr × Obj)} {σ : L2.St} {H : Hp} {s : Shared} {Q : VK} {us : List Value} {vs : List V} (F : FnG X.prog X.w X.K X.mg X.base CX k f sp) (g : Gx X k) (hx : Passes CX X E) (I : L2.Inv X pins σ H s) (r : Vals vs us) (h : sp vs H Q E) :
    wpAny (model X.prog X.w) X.A (call (.ref f) us) (EP X pins σ Q) X.xe s := by
  refine wpAny_call (codeAny_mono (F X.A X.stack s H us vs Q E g.rm g.gd I.env0 r h) fun r s' hq => ?_)
  match r, hq with
  | .error e, hq => exact hx pins σ H s e s' I hq
  | .ok (.ret u), hq => exact I.after hq
  | .ok .next, hq => exact False.elim hq
  | .ok .brk, hq => exact False.elim hq
  | .ok .cont, hq => exact False.elim hq
theorem pe_callG (F : FnG X.prog X.w X.K X.mg X.base CX k f sp) (g : Gx X k) (hg : Gl X x) (hm : X.mg x = some (.ref f)) (hk : PySem.W.keepIn X.K (.ref f) = true) (hx : Passes CX X E) (hd : (x == ("__debug__" : Str)) = false := by decide)
    (hst : starEach (e :: es) X.env = (false, eval e X.env) :: starEach es X.env := by exact st_any rfl) (hpl : (backTo pos (starEach es X.env)).any (·.1) = false := by rfl) :
    PE X (.Call (.Name x p) (e :: es) [] pos) (fun σ H Q => wA X (e :: es) σ H fun vs H1 => sp vs H1 Q E) :=
  ⟨fun pins s σ H Q I h => wpAny_Call_Name_kw (ld_glob I hg hm (PySem.W.callWith_K (h₀ := X.base) I.ok.mod.kin hk (thn (h.run pos pins s I) fun us s1 ⟨vs, H1, I1, r, q⟩ => ⟨I1.kIn, run_fnG F g hx I1 r q⟩) hst hpl) hd)⟩
/-- with starred arguments behind the first one -/
theorem pe_callGS (F : FnG X.prog X.w X.K X.mg X.base CX k f sp) (g : Gx X k) (hg : Gl X x) (hm : X.mg x = some (.ref f)) (hk : PySem.W.keepIn X.K (.ref f) = true) (hx : Passes CX X E) (hd : (x == ("__debug__" : Str)) = false := by decide)
    (he : starEach (e :: es) X.env = (false, eval e X.env) :: starEach es X.env := by exact st_any rfl) (hst : (backTo pos (starEach es X.env)).any (·.1) = true := by rfl) :
    PE X (.Call (.Name x p) (e :: es) [] pos) (fun σ H Q => wA X (e :: es) σ H fun vs H1 => sp vs H1 Q E) :=
  ⟨fun pins s σ H Q I h => wpAny_Call_Name_kw (ld_glob I hg hm (PySem.W.callWith_S2 (h₀ := X.base) I.ok.mod.kin hk (thn (h.run pos pins s I) fun us s1 ⟨vs, H1, I1, r, q⟩ => ⟨I1.kIn, wpAny_call (by
    refine codeAny_mono (F X.A X.stack s1 H1 _ vs Q E g.rm g.gd I1.env0 r q) fun r s' hq => ?_
    match r, hq with
    | .error e, hq => exact hx pins σ H1 s1 e s' I1 hq
    | .ok (.ret u), hq => exact I1.after hq
    | .ok .next, hq => exact False.elim hq
    | .ok .brk, hq => exact False.elim hq
    | .ok .cont, hq => exact False.elim hq)⟩) he hst) hd)⟩
end

/-! contracts of data -/
/-- pure: data to data -/
def spP (K : PySem.W.Frag) (C : List D → D → Prop) : Sp := fun vs H Q _ => ∃ R ds d, Same R H ∧ IsA K R vs ds ∧ C ds d ∧ ∀ v R2 H2, Tr H R R2 → Same H H2 → Same R2 H2 → Is K R2 v d → Q v H2
/-- pure, a new list -/
def spO (K : PySem.W.Frag) (C : List D → List D → Prop) : Sp := fun vs H Q _ => ∃ R ds es, Same R H ∧ IsA K R vs ds ∧ C ds es ∧ ∀ p xs R2 H2, Tr H R R2 → Same H H2 → Same R2 H2 → H p = none → R2 p = none → H2 p = some (.lst xs) → IsA K R2 xs es → Q (.ref p) H2
/-- the first argument is a list that may change -/
def spH (K : PySem.W.Frag) (C : List D → List D → D → List D → Prop) : Sp := fun vs H Q _ => ∃ R p xs hs vs' ds d hs', vs = .ref p :: vs' ∧ H p = some (.lst xs) ∧ R p = none ∧ Same R H ∧ IsA K R xs hs ∧ IsA K R vs' ds ∧ C hs ds d hs' ∧
  ∀ v R2 H2 xs', Tr H R R2 → (∀ b o, b ≠ p → H b = some o → H2 b = some o) → Same R2 H2 → H2 p = some (.lst xs') → IsA K R2 xs' hs' → Is K R2 v d → Q v H2
def dats (ds : List D) (n : Nat) : List Sl := ds.map .dat ++ List.replicate (n - ds.length) .no
theorem dats_get {ds : List D} {n i : Nat} {s : Sl} (h : (dats ds n)[i]? = some s) : (∃ d, s = .dat d ∧ ds[i]? = some d) ∨ s = .no := by
  unfold dats at h
  by_cases hi : i < ds.length
  · rw [List.getElem?_append_left (by rw [List.length_map]; exact hi), List.getElem?_map, List.getElem?_eq_getElem hi] at h
    cases h
    exact .inl ⟨_, rfl, List.getElem?_eq_getElem hi⟩
  · rw [List.getElem?_append_right (by rw [List.length_map]; omega)] at h
    have m := List.mem_of_getElem? h
    exact .inr (List.eq_of_mem_replicate m)
section
variable {K : PySem.W.Frag} {R H : Hp} {vs : List V} {ds : List D} {N : List Str}
theorem start_ok (hR : Same R H) (ia : IsA K R vs ds) (hl : ds.length ≤ N.length) : StOk K H R H (start N vs) (dats ds N.length) := by
  have e := ia.len
  refine ⟨Same.refl H, hR, ?_, fun i s h => ?_, fun i j p as bs h1 h2 => ?_, fun i j p _ _ _ _ _ _ h1 h2 => by rcases dats_get h1 with ⟨d, q, _⟩ | q <;> cases q⟩
  · unfold L2.start dats
    simp only [List.length_append, List.length_map, List.length_replicate]
    omega
  · rcases dats_get h with ⟨d, rfl, hd⟩ | rfl
    · obtain ⟨v, hv, iv⟩ := ia.get hd
      have hi : i < vs.length := (List.getElem?_eq_some_iff.mp hv).1
      refine ⟨v, ?_, iv⟩
      unfold L2.start
      rw [List.getElem?_append_left (by rw [List.length_map]; exact hi), List.getElem?_map, hv]
      rfl
    · trivial
  · rcases dats_get h1 with ⟨d, q, _⟩ | q <;> cases q
/-- with a list that may change as the first argument -/
theorem startH_ok {p : Addr} {xs : List V} {hs : List D} (hR : Same R H) (ia : IsA K R vs ds) (hp : H p = some (.lst xs)) (hn : R p = none) (ih : IsA K R xs hs) (hl : ds.length + 1 ≤ N.length) :
    StOk K (fun b => if b = p then none else H b) R H (start N (.ref p :: vs)) (.own p hs :: dats ds (N.length - 1)) := by
  have e := ia.len
  have hst : start N (.ref p :: vs) = some (.ref p) :: (vs.map some ++ List.replicate (N.length - 1 - vs.length) none) := by
    unfold L2.start
    rw [List.map_cons, List.cons_append, List.length_cons]
    have : N.length - (vs.length + 1) = N.length - 1 - vs.length := by omega
    rw [this]
  rw [hst]
  refine ⟨fun b o q => ?_, hR, ?_, fun i s h => ?_, fun i j q as bs h1 h2 => ?_, fun i j q _ _ _ _ _ _ h1 h2 => by
    cases i with
    | zero => cases h1
    | succ i =>
      rw [List.getElem?_cons_succ] at h1
      rcases dats_get h1 with ⟨d, e, _⟩ | e <;> cases e⟩
  · by_cases hb : b = p
    · rw [if_pos hb] at q
      cases q
    · rw [if_neg hb] at q
      exact q
  · unfold dats
    simp only [List.length_append, List.length_map, List.length_replicate, List.length_cons]
    omega
  · cases i with
    | zero =>
      cases h
      exact ⟨rfl, if_pos rfl, hn, xs, hp, ih⟩
    | succ i =>
      rw [List.getElem?_cons_succ] at h ⊢
      rcases dats_get h with ⟨d, rfl, hd⟩ | rfl
      · obtain ⟨v, hv, iv⟩ := ia.get hd
        have hi : i < vs.length := (List.getElem?_eq_some_iff.mp hv).1
        refine ⟨v, ?_, iv⟩
        rw [List.getElem?_append_left (by rw [List.length_map]; exact hi), List.getElem?_map, hv]
        rfl
      · trivial
  · have f : ∀ {m : Nat} {q : Addr} {as : List D}, (Sl.own p hs :: dats ds (N.length - 1))[m]? = some (.own q as) → m = 0 := fun {m q as} z => by
      cases m with
      | zero => rfl
      | succ m =>
        rw [List.getElem?_cons_succ] at z
        rcases dats_get z with ⟨d, e, _⟩ | e <;> cases e
    rw [f h1, f h2]
end
section
variable {P : Program} {w : World} {K : PySem.W.Frag} {mg : Str → Option Value} {base : Heap} {k : Nat} {f : Addr}
/-- the frame's own place, behind the body -/
abbrev BX (P : Program) (w : World) (K : PySem.W.Frag) (mg : Str → Option Value) (base : Heap) (N : List Str) (qual : Str) (st : Stmt) (f : Addr) (cdv : Value) (A : Around) (outer : List Env) (s : Shared) (H : Hp) (E : XK) : Cx :=
  (cxOf CX0 P w K mg base N qual (defScope st) f cdv A outer s H E).nox
theorem wSs_nox {X : Cx} {sts : List Stmt} {E : Ends} {σ : L2.St} {H : Hp} (h : wSs X.nox sts E σ H) : wSs X sts E σ H := PSs.w (PSs.nox pssW) h
theorem fn_pure {x qual : Str} {st : Stmt} {fd : FuncData} {N ps : List Str} {C : List D → D → Prop} (F : Fun K x qual st f fd) (S : FnScope N ps (defScope st)) (hb : Binds K fd ps []) (hl : ∀ ds d, C ds d → ds.length = ps.length) (hN : ps.length ≤ N.length)
    (body : ∀ (cdv : Value) (A : Around) (outer : List Env) (s : Shared) (H : Hp) (E : XK) (ds : List D) (d : D), Gx (BX P w K mg base N qual st f cdv A outer s H E) k → C ds d →
      DSs (BX P w K mg base N qual st f cdv A outer s H E) (defBody st) (dats ds N.length) { nx := fun _ => d = .non, rt := fun d' _ => d' = d, ro := fun es _ => D.lst es = d }) : FnG P w K mg base CX0 (k + 1) f (spP K C) := by
  refine fng_plain F S hb (fun vs H Q E ⟨R, ds, d, _, ia, c, _⟩ => by rw [ia.len, hl ds d c]) fun cdv A outer s H vs Q E g ⟨R, ds, d, hR, ia, c, q⟩ => wSs_nox ?_
  refine body cdv A outer s H E ds d ⟨g.rm, g.gd⟩ c H R H _ _ (start_ok hR ia (by rw [hl ds d c]; exact hN)) ⟨fun R' H' σ' δ' t s' e => ?_, fun R' H' σ' δ' v d' t s' iv e => ?_, fun R' H' σ' δ' p xs es t s' hF hR' hp ia no e => ?_, fun _ _ _ _ _ _ z => False.elim z, fun _ _ _ _ _ _ z => False.elim z⟩
  · subst e
    exact q _ R' H' t s'.fr s'.rg .non
  · have e' : d' = d := e
    subst e'
    exact q v R' H' t s'.fr s'.rg iv
  · have e' : D.lst es = d := e
    subst e'
    obtain ⟨s2, t2⟩ := s'.freeze hp hF hR' no
    exact q _ _ H' (t.trans t2) s2.fr s2.rg (.lst upd_same (ia.mono t2.ex))
theorem fn_new {x qual : Str} {st : Stmt} {fd : FuncData} {N ps : List Str} {C : List D → List D → Prop} (F : Fun K x qual st f fd) (S : FnScope N ps (defScope st)) (hb : Binds K fd ps []) (hl : ∀ ds d, C ds d → ds.length = ps.length) (hN : ps.length ≤ N.length)
    (body : ∀ (cdv : Value) (A : Around) (outer : List Env) (s : Shared) (H : Hp) (E : XK) (ds es : List D), Gx (BX P w K mg base N qual st f cdv A outer s H E) k → C ds es →
      DSs (BX P w K mg base N qual st f cdv A outer s H E) (defBody st) (dats ds N.length) { nx := fun _ => False, ro := fun es' _ => es' = es }) : FnG P w K mg base CX0 (k + 1) f (spO K C) := by
  refine fng_plain F S hb (fun vs H Q E ⟨R, ds, d, _, ia, c, _⟩ => by rw [ia.len, hl ds d c]) fun cdv A outer s H vs Q E g ⟨R, ds, d, hR, ia, c, q⟩ => wSs_nox ?_
  refine body cdv A outer s H E ds d ⟨g.rm, g.gd⟩ c H R H _ _ (start_ok hR ia (by rw [hl ds d c]; exact hN)) ⟨fun _ _ _ _ _ _ z => False.elim z, fun _ _ _ _ _ _ _ _ _ z => False.elim z, fun R' H' σ' δ' p xs es t s' hF hR' hp ia no e => ?_, fun _ _ _ _ _ _ z => False.elim z, fun _ _ _ _ _ _ z => False.elim z⟩
  have e' : es = d := e
  subst e'
  exact q p xs R' H' t s'.fr s'.rg hF hR' hp ia
/-- the content of the list at p, behind the body -/
def OwnAt (δ : List Sl) (p : Addr) (hs : List D) : Prop := δ[0]? = some (.own p hs)
theorem fn_hoard {x qual : Str} {st : Stmt} {fd : FuncData} {N ps : List Str} {C : List D → List D → D → List D → Prop} (F : Fun K x qual st f fd) (S : FnScope N ps (defScope st)) (hb : Binds K fd ps []) (hl : ∀ hs ds d hs', C hs ds d hs' → ds.length + 1 = ps.length) (hN : ps.length ≤ N.length)
    (body : ∀ (cdv : Value) (A : Around) (outer : List Env) (s : Shared) (H : Hp) (E : XK) (p : Addr) (hs ds : List D) (d : D) (hs' : List D), Gx (BX P w K mg base N qual st f cdv A outer s H E) k → C hs ds d hs' →
      DSs (BX P w K mg base N qual st f cdv A outer s H E) (defBody st) (.own p hs :: dats ds (N.length - 1)) { nx := fun δ => d = .non ∧ OwnAt δ p hs', rt := fun d' δ => d' = d ∧ OwnAt δ p hs', ro := fun es δ => D.lst es = d ∧ OwnAt δ p hs' }) : FnG P w K mg base CX0 (k + 1) f (spH K C) := by
  refine fng_plain F S hb (fun vs H Q E ⟨R, p, xs, hs, vs', ds, d, hs', e, _, _, _, _, ia, c, _⟩ => by rw [e, List.length_cons, ia.len, hl _ _ _ _ c]) fun cdv A outer s H vs Q E g ⟨R, p, xs, hs, vs', ds, d, hs', e, hp, hn, hR, ih, ia, c, q⟩ => wSs_nox ?_
  subst e
  have tr : ∀ {R' : Hp}, Tr (fun b => if b = p then none else H b) R R' → R' p = none → Tr H R R' := fun {R'} t hn' => ⟨t.ex, fun a h1 h2 => by
    by_cases ha : a = p
    · rw [ha]
      exact hn'
    · exact t.nw a (by show (if a = p then none else H a) ≠ none; rw [if_neg ha]; exact h1) h2⟩
  have fr : ∀ {H' : Hp}, Same (fun b => if b = p then none else H b) H' → ∀ b o, b ≠ p → H b = some o → H' b = some o := fun {H'} s b o hb e => s b o (by show (if b = p then none else H b) = some o; rw [if_neg hb]; exact e)
  refine body cdv A outer s H E p hs ds d hs' ⟨g.rm, g.gd⟩ c _ R H _ _ (startH_ok hR ia hp hn ih (by rw [hl _ _ _ _ c]; exact hN)) ⟨fun R' H' σ' δ' t s' e => ?_, fun R' H' σ' δ' v d' t s' iv e => ?_, fun R' H' σ' δ' r ys es t s' hF hR' hr ir no e => ?_, fun _ _ _ _ _ _ z => False.elim z, fun _ _ _ _ _ _ z => False.elim z⟩
  · obtain ⟨e1, e2⟩ := e
    subst e1
    obtain ⟨_, _, g3, zs, g4, g5⟩ := s'.at_ 0 _ e2
    exact q _ R' H' zs (tr t g3) (fr s'.fr) s'.rg g4 g5 .non
  · obtain ⟨e1, e2⟩ := e
    subst e1
    obtain ⟨_, _, g3, zs, g4, g5⟩ := s'.at_ 0 _ e2
    exact q v R' H' zs (tr t g3) (fr s'.fr) s'.rg g4 g5 iv
  · obtain ⟨e1, e2⟩ := e
    subst e1
    obtain ⟨s2, t2⟩ := s'.freeze hr hF hR' no
    obtain ⟨_, _, g3, zs, g4, g5⟩ := s2.at_ 0 _ e2
    exact q _ _ H' zs (tr (t.trans t2) g3) (fr s2.fr) s2.rg g4 g5 (.lst upd_same (ir.mono t2.ex))
end
section
variable {X : Cx} {k : Nat} {f : Addr} {x : Str} {e : Expr} {es : List Expr} {p pos : Pos} {δ δ1 : List Sl} {ds : List D} {d : D}
/-- a pure def called -/
theorem de_call {C : List D → D → Prop} (F : FnG X.prog X.w X.K X.mg X.base CX0 k f (spP X.K C)) (g : Gx X k) (hm : X.mg x = some (.ref f)) (hk : PySem.W.keepIn X.K (.ref f) = true) (h : DA X (e :: es) δ ds δ1) (c : C ds d) (hg : Gl X x := by rfl) (hd : (x == ("__debug__" : Str)) = false := by decide)
    (hst : starEach (e :: es) X.env = (false, eval e X.env) :: starEach es X.env := by exact st_any rfl) (hpl : (backTo pos (starEach es X.env)).any (·.1) = false := by rfl) : DE X (.Call (.Name x p) (e :: es) [] pos) δ d δ1 := fun F0 R H σ Q s k0 =>
  (pe_callG F g hg hm hk pass0 hd hst hpl).w (h F0 R H σ _ s fun vs R1 H1 t1 s1 ia => by
    obtain ⟨u1, fu⟩ := s1.up
    refine ⟨R1, ds, d, s1.rg, ia, c, fun v R2 H2 t2 e2 r2 iv => ?_⟩
    have u2 : StOk X.K F0 R2 H2 σ δ1 := by
      refine ⟨s1.fr.trans e2, r2, s1.ln, fun i x q => ?_, s1.ap, s1.ap2⟩
      have z := s1.at_ i x q
      match x, z, q with
      | .no, _, _ => trivial
      | .dat d, z, _ =>
        obtain ⟨v, ev, jv⟩ := z
        exact ⟨v, ev, jv.mono t2.ex⟩
      | .own r as, z, _ =>
        obtain ⟨z1, z2, z3, xs, z4, z5⟩ := z
        exact ⟨z1, z2, t2.nw r (by rw [z4]; exact fun w => by cases w) z3, xs, e2 r _ z4, z5.mono t2.ex⟩
      | .odc hf r ks vs, z, _ =>
        obtain ⟨z1, z2, z3, M, z4, z5, z6, z7⟩ := z
        exact ⟨z1, z2, t2.nw r (by rw [z4]; exact fun w => by cases w) z3, M, e2 r _ z4, z5.mono t2.ex, z6.mono t2.ex, z7⟩
    exact k0 v R2 H2 (t1.trans (t2.low s1.fr)) u2 iv)
theorem do_call {C : List D → List D → Prop} {gs : List D} (F : FnG X.prog X.w X.K X.mg X.base CX0 k f (spO X.K C)) (g : Gx X k) (hm : X.mg x = some (.ref f)) (hk : PySem.W.keepIn X.K (.ref f) = true) (h : DA X (e :: es) δ ds δ1) (c : C ds gs) (hg : Gl X x := by rfl) (hd : (x == ("__debug__" : Str)) = false := by decide)
    (hst : starEach (e :: es) X.env = (false, eval e X.env) :: starEach es X.env := by exact st_any rfl) (hpl : (backTo pos (starEach es X.env)).any (·.1) = false := by rfl) : DO X (.Call (.Name x p) (e :: es) [] pos) δ gs δ1 := fun F0 R H σ Q s k0 =>
  (pe_callG F g hg hm hk pass0 hd hst hpl).w (h F0 R H σ _ s fun vs R1 H1 t1 s1 ia => by
    refine ⟨R1, ds, gs, s1.rg, ia, c, fun q xs R2 H2 t2 e2 r2 hq hR2 hq2 iv => ?_⟩
    have u2 : StOk X.K F0 R2 H2 σ δ1 := by
      refine ⟨s1.fr.trans e2, r2, s1.ln, fun i x q => ?_, s1.ap, s1.ap2⟩
      have z := s1.at_ i x q
      match x, z, q with
      | .no, _, _ => trivial
      | .dat d, z, _ =>
        obtain ⟨v, ev, jv⟩ := z
        exact ⟨v, ev, jv.mono t2.ex⟩
      | .own r as, z, _ =>
        obtain ⟨z1, z2, z3, xs, z4, z5⟩ := z
        exact ⟨z1, z2, t2.nw r (by rw [z4]; exact fun w => by cases w) z3, xs, e2 r _ z4, z5.mono t2.ex⟩
      | .odc hf r ks vs, z, _ =>
        obtain ⟨z1, z2, z3, M, z4, z5, z6, z7⟩ := z
        exact ⟨z1, z2, t2.nw r (by rw [z4]; exact fun w => by cases w) z3, M, e2 r _ z4, z5.mono t2.ex, z6.mono t2.ex, z7⟩
    exact k0 q xs R2 H2 (t1.trans (t2.low s1.fr)) u2 (s1.fr.free hq) hR2 hq2 iv fun i as z => by
      obtain ⟨_, _, _, ys, z4, _⟩ := s1.at_ i _ z
      rw [hq] at z4
      cases z4)
/-- a def that changes the list in place i, its first argument -/
theorem de_callH {C : List D → List D → D → List D → Prop} {i : Nat} {r : Addr} {hs hs1 hs2 : List D} {y : Str} {yp : Pos} (F : FnG X.prog X.w X.K X.mg X.base CX0 k f (spH X.K C)) (g : Gx X k) (hm : X.mg x = some (.ref f)) (hk : PySem.W.keepIn X.K (.ref f) = true)
    (hi : δ[i]? = some (.own r hs)) (h : DA X es δ ds δ1) (hi1 : δ1[i]? = some (.own r hs1)) (c : C hs1 ds d hs2) (hN : X.N[i]? = some y := by rfl) (hv : Vis X.env.scope y := by first | exact Or.inl rfl | exact Or.inr (Or.inl rfl) | exact Or.inr (Or.inr rfl)) (hg : Gl X x := by rfl) (hd : (x == ("__debug__" : Str)) = false := by decide)
    (hyd : (y == ("__debug__" : Str)) = false := by decide) (hyc : (y == ("__classdict__" : Str)) = false := by decide) (hst : starEach (.Name y yp :: es) X.env = (false, eval (.Name y yp) X.env) :: starEach es X.env := by exact st_any rfl) (hpl : (backTo pos (starEach es X.env)).any (·.1) = false := by rfl) :
    DE X (.Call (.Name x p) (.Name y yp :: es) [] pos) δ d (δ1.set i (.own r hs2)) := fun F0 R H σ Q s k0 =>
  (pe_callG F g hg hm hk pass0 hd hst hpl).w ((pa_cons (pe_var hN hv hyd hyc) paW hst).w ⟨.ref r, (s.at_ i _ hi).1, h F0 R H σ _ s fun vs R1 H1 t1 s1 ia => by
    obtain ⟨z1, z2, z3, xs, z4, z5⟩ := s1.at_ i _ hi1
    refine ⟨R1, r, xs, hs1, vs, ds, d, hs2, rfl, z4, z3, s1.rg, z5, ia, c, fun v R2 H2 xs' t2 e2 r2 q2 j2 iv => ?_⟩
    have hR2 : R2 r = none := t2.nw r (by rw [z4]; exact fun w => by cases w) z3
    have u2 : StOk X.K F0 R2 H2 σ (δ1.set i (.own r hs2)) := by
      have hl : i < δ1.length := (List.getElem?_eq_some_iff.mp hi1).1
      refine ⟨fun b o q => ?_, r2, by rw [List.length_set]; exact s1.ln, fun j x q => ?_, fun j m q as bs q1 q2 => ?_, s1.ap2.own⟩
      · exact e2 b o (ne_of_none q z2) (s1.fr b o q)
      · by_cases hj : j = i
        · subst hj
          rw [List.getElem?_set_self hl] at q
          cases q
          exact ⟨z1, z2, hR2, xs', q2, j2⟩
        · rw [List.getElem?_set_ne (Ne.symm hj)] at q
          have z := s1.at_ j x q
          match x, z, q with
          | .no, _, _ => trivial
          | .dat d, z, _ =>
            obtain ⟨v, ev, jv⟩ := z
            exact ⟨v, ev, jv.mono t2.ex⟩
          | .own r' as, z, q =>
            obtain ⟨y1, y2, y3, ys, y4, y5⟩ := z
            have hne : r' ≠ r := fun w => hj (s1.ap j i r as hs1 (w ▸ q) hi1)
            exact ⟨y1, y2, t2.nw r' (by rw [y4]; exact fun w => by cases w) y3, ys, e2 r' _ hne y4, y5.mono t2.ex⟩
          | .odc hf r' ks vs, z, q =>
            obtain ⟨y1, y2, y3, M, y4, y5, y6, y7⟩ := z
            have hne : r' ≠ r := fun w => by subst w; rw [z4] at y4; cases y4
            exact ⟨y1, y2, t2.nw r' (by rw [y4]; exact fun w => by cases w) y3, M, e2 r' _ hne y4, y5.mono t2.ex, y6.mono t2.ex, y7⟩
      · have f : ∀ {m : Nat} {q : Addr} {as : List D}, (δ1.set i (.own r hs2))[m]? = some (.own q as) → ∃ cs, δ1[m]? = some (.own q cs) := fun {m q as} e => by
          by_cases hm : m = i
          · subst hm
            rw [List.getElem?_set_self hl] at e
            cases e
            exact ⟨hs1, hi1⟩
          · rw [List.getElem?_set_ne (Ne.symm hm)] at e
            exact ⟨as, e⟩
        obtain ⟨c1, w1⟩ := f q1
        obtain ⟨c2, w2⟩ := f q2
        exact s1.ap j m q c1 c2 w1 w2
    exact k0 v R2 H2 (t1.trans (t2.low s1.fr)) u2 iv⟩)
end
end Dy

/-! part Ly5 -/
namespace Dy
open PySem PySem.Spec PyProof.Rows L2

/-! data as the library's data -/
mutual
def py : D → PyData
  | .non => .none
  | .bl b => .bool b
  | .int i => .int i
  | .str x => .str x
  | .lst ds => .list (pys ds)
  | .tup ds => .tuple (pys ds)
  | .rol ds => .list (pys ds)
  | .obj _ _ _ => .none
  | .at_ _ => .none
  | .emp => .none
  | .dct _ _ _ => .none
  | .dii _ => .none
def pys : List D → List PyData
  | [] => []
  | d :: ds => py d :: pys ds
end
theorem pys_map : ∀ ds : List D, pys ds = ds.map py
  | [] => rfl
  | d :: ds => by
    show py d :: pys ds = py d :: ds.map py
    rw [pys_map ds]
/-- at most n levels, ints of less than 1920 bits, proper texts, no objects -/
def okD : Nat → D → Bool
  | _, .non => true
  | _, .bl _ => true
  | _, .int i => decide (i.natAbs.log2 < 1920)
  | _, .str x => PyData.strOk x
  | n + 1, .lst ds => ds.all (okD n)
  | n + 1, .tup ds => ds.all (okD n)
  | n + 1, .rol ds => ds.all (okD n)
  | _, _ => false
/-- how long a text may become -/
def cst : Nat → D → Nat
  | _, .non => 4
  | _, .bl _ => 5
  | _, .int i => i.natAbs.log2 + 2
  | _, .str x => 10 * x.length + 2
  | n + 1, .lst ds => (ds.map fun d => cst n d + 2).sum + 3
  | n + 1, .tup ds => (ds.map fun d => cst n d + 2).sum + 3
  | n + 1, .rol ds => (ds.map fun d => cst n d + 2).sum + 3
  | _, _ => 4
theorem all_pys {p : PyData → Bool} {q : List PyData → Bool} (h0 : q [] = true) (h1 : ∀ x xs, p x = true → q xs = true → q (x :: xs) = true) {n : Nat} (ih : ∀ d, okD n d = true → p (py d) = true) : ∀ ds : List D, ds.all (okD n) = true → q (pys ds) = true
  | [], _ => h0
  | d :: ds, h => by
    rw [List.all_cons, Bool.and_eq_true] at h
    exact h1 _ _ (ih d h.1) (all_pys h0 h1 ih ds h.2)
theorem ok_lay : ∀ (n : Nat) (d : D), okD n d = true → (py d).canLay0 = true
  | _, .non, _ => rfl
  | _, .bl _, _ => rfl
  | _, .int _, _ => rfl
  | 0, .str x, h => by simpa [okD, py, PyData.canLay0] using h
  | n + 1, .str x, h => by simpa [okD, py, PyData.canLay0] using h
  | n + 1, .lst ds, h => by
    show PyData.canLayAll0 (pys ds) = true
    exact all_pys (p := PyData.canLay0) (q := PyData.canLayAll0) rfl (fun x xs h1 h2 => by rw [PyData.canLayAll0, h1, h2]; rfl) (ok_lay n) ds h
  | n + 1, .tup ds, h => by
    show PyData.canLayAll0 (pys ds) = true
    exact all_pys (p := PyData.canLay0) (q := PyData.canLayAll0) rfl (fun x xs h1 h2 => by rw [PyData.canLayAll0, h1, h2]; rfl) (ok_lay n) ds h
  | n + 1, .rol ds, h => by
    show PyData.canLayAll0 (pys ds) = true
    exact all_pys (p := PyData.canLay0) (q := PyData.canLayAll0) rfl (fun x xs h1 h2 => by rw [PyData.canLayAll0, h1, h2]; rfl) (ok_lay n) ds h
  | 0, .obj _ _ _, h => by cases h
  | _ + 1, .obj _ _ _, h => by cases h
  | 0, .at_ _, h => by cases h
  | _ + 1, .at_ _, h => by cases h
  | 0, .emp, h => by cases h
  | 0, .dii _, h => by cases h
  | _ + 1, .emp, h => by cases h
  | _ + 1, .dii _, h => by cases h
  | 0, .dct _ _ _, h => by cases h
  | _ + 1, .dct _ _ _, h => by cases h
theorem ok_show : ∀ (n : Nat) (d : D), okD n d = true → (py d).showable = true
  | _, .non, _ => rfl
  | _, .bl _, _ => rfl
  | 0, .int i, h => by simpa [okD, py, PyData.showable] using h
  | n + 1, .int i, h => by simpa [okD, py, PyData.showable] using h
  | _, .str x, h => rfl
  | n + 1, .lst ds, h => by
    show PyData.showableAll (pys ds) = true
    exact all_pys (p := PyData.showable) (q := PyData.showableAll) rfl (fun x xs h1 h2 => by rw [PyData.showableAll, h1, h2]; rfl) (ok_show n) ds h
  | n + 1, .tup ds, h => by
    show PyData.showableAll (pys ds) = true
    exact all_pys (p := PyData.showable) (q := PyData.showableAll) rfl (fun x xs h1 h2 => by rw [PyData.showableAll, h1, h2]; rfl) (ok_show n) ds h
  | n + 1, .rol ds, h => by
    show PyData.showableAll (pys ds) = true
    exact all_pys (p := PyData.showable) (q := PyData.showableAll) rfl (fun x xs h1 h2 => by rw [PyData.showableAll, h1, h2]; rfl) (ok_show n) ds h
  | 0, .obj _ _ _, h => by cases h
  | _ + 1, .obj _ _ _, h => by cases h
  | 0, .at_ _, h => by cases h
  | _ + 1, .at_ _, h => by cases h
  | 0, .emp, h => by cases h
  | 0, .dii _, h => by cases h
  | _ + 1, .emp, h => by cases h
  | _ + 1, .dii _, h => by cases h
  | 0, .dct _ _ _, h => by cases h
  | _ + 1, .dct _ _ _, h => by cases h
theorem ok_depth : ∀ (n : Nat) (d : D), okD n d = true → (py d).depth ≤ n
  | _, .non, _ => Nat.zero_le _
  | _, .bl _, _ => Nat.zero_le _
  | _, .int _, _ => Nat.zero_le _
  | _, .str x, h => Nat.zero_le _
  | n + 1, .lst ds, h => by
    have z := all_pys (p := fun x => decide (x.depth ≤ n)) (q := fun xs => decide (PyData.depthAll xs ≤ n)) (by simp [PyData.depthAll]) (fun x xs h1 h2 => by
      simp only [decide_eq_true_eq] at *
      rw [PyData.depthAll]
      exact Nat.max_le.mpr ⟨h1, h2⟩) (fun d hd => decide_eq_true (ok_depth n d hd)) ds h
    exact Nat.succ_le_succ (of_decide_eq_true z)
  | n + 1, .tup ds, h => by
    have z := all_pys (p := fun x => decide (x.depth ≤ n)) (q := fun xs => decide (PyData.depthAll xs ≤ n)) (by simp [PyData.depthAll]) (fun x xs h1 h2 => by
      simp only [decide_eq_true_eq] at *
      rw [PyData.depthAll]
      exact Nat.max_le.mpr ⟨h1, h2⟩) (fun d hd => decide_eq_true (ok_depth n d hd)) ds h
    exact Nat.succ_le_succ (of_decide_eq_true z)
  | n + 1, .rol ds, h => by
    have z := all_pys (p := fun x => decide (x.depth ≤ n)) (q := fun xs => decide (PyData.depthAll xs ≤ n)) (by simp [PyData.depthAll]) (fun x xs h1 h2 => by
      simp only [decide_eq_true_eq] at *
      rw [PyData.depthAll]
      exact Nat.max_le.mpr ⟨h1, h2⟩) (fun d hd => decide_eq_true (ok_depth n d hd)) ds h
    exact Nat.succ_le_succ (of_decide_eq_true z)
  | 0, .obj _ _ _, h => by cases h
  | _ + 1, .obj _ _ _, h => by cases h
  | 0, .at_ _, h => by cases h
  | _ + 1, .at_ _, h => by cases h
  | 0, .emp, h => by cases h
  | 0, .dii _, h => by cases h
  | _ + 1, .emp, h => by cases h
  | _ + 1, .dii _, h => by cases h
  | 0, .dct _ _ _, h => by cases h
  | _ + 1, .dct _ _ _, h => by cases h
theorem shownAll_sum (n : Nat) (ih : ∀ d, okD n d = true → (py d).shown.length ≤ cst n d) : ∀ ds : List D, ds.all (okD n) = true → ((PyData.shownAll (pys ds)).map (·.length)).sum + 2 * (PyData.shownAll (pys ds)).length ≤ (ds.map fun d => cst n d + 2).sum
  | [], _ => Nat.le_refl _
  | d :: ds, h => by
    rw [List.all_cons, Bool.and_eq_true] at h
    have h1 := ih d h.1
    have h2 := shownAll_sum n ih ds h.2
    show (((py d).shown :: PyData.shownAll (pys ds)).map (·.length)).sum + 2 * ((py d).shown :: PyData.shownAll (pys ds)).length ≤ _
    simp only [List.map_cons, List.sum_cons, List.length_cons]
    omega
theorem ok_cost : ∀ (n : Nat) (d : D), okD n d = true → (py d).shown.length ≤ cst n d
  | _, .non, _ => by simp only [py, PyData.shown, cst]; decide
  | _, .bl b, _ => by
    simp only [py, PyData.shown, cst]
    cases b <;> decide
  | 0, .int i, h => by
    have q := int_text_length_le (a := i) (Nat.succ_pos _) (Nat.lt_succ_self i.natAbs.log2)
    show (Str.ofString (toString i)).length ≤ i.natAbs.log2 + 2
    rw [PySem.ofString_length]
    exact q
  | n + 1, .int i, h => by
    have q := int_text_length_le (a := i) (Nat.succ_pos _) (Nat.lt_succ_self i.natAbs.log2)
    show (Str.ofString (toString i)).length ≤ i.natAbs.log2 + 2
    rw [PySem.ofString_length]
    exact q
  | 0, .str x, h => by
    simp only [okD, PyData.strOk] at h
    simp only [py, PyData.shown, cst]
    refine StrLaws.reprText_len x fun c hc => ?_
    have := Array.all_eq_true_iff_forall_mem.mp h c (by simpa using hc)
    have := of_decide_eq_true this
    omega
  | n + 1, .str x, h => by
    simp only [okD, PyData.strOk] at h
    simp only [py, PyData.shown, cst]
    refine StrLaws.reprText_len x fun c hc => ?_
    have := Array.all_eq_true_iff_forall_mem.mp h c (by simpa using hc)
    have := of_decide_eq_true this
    omega
  | n + 1, .lst ds, h => by
    have z := shownAll_sum n (ok_cost n) ds h
    have y := listText_len_le (PyData.shownAll (pys ds))
    show (listText (PyData.shownAll (pys ds))).length ≤ (ds.map fun d => cst n d + 2).sum + 3
    omega
  | n + 1, .tup ds, h => by
    have z := shownAll_sum n (ok_cost n) ds h
    have y := tupleText_len_le (PyData.shownAll (pys ds))
    show (tupleText (PyData.shownAll (pys ds))).length ≤ (ds.map fun d => cst n d + 2).sum + 3
    omega
  | n + 1, .rol ds, h => by
    have z := shownAll_sum n (ok_cost n) ds h
    have y := listText_len_le (PyData.shownAll (pys ds))
    show (listText (PyData.shownAll (pys ds))).length ≤ (ds.map fun d => cst n d + 2).sum + 3
    omega
  | 0, .obj _ _ _, h => by cases h
  | _ + 1, .obj _ _ _, h => by cases h
  | 0, .at_ _, h => by cases h
  | _ + 1, .at_ _, h => by cases h
  | 0, .emp, h => by cases h
  | 0, .dii _, h => by cases h
  | _ + 1, .emp, h => by cases h
  | _ + 1, .dii _, h => by cases h
  | 0, .dct _ _ _, h => by cases h
  | _ + 1, .dct _ _ _, h => by cases h
theorem ok_all_dp {K : PySem.W.Frag} {R H : Hp} (e : Same R H) {n : Nat} (ih : ∀ (d : D) (v : V), okD n d = true → Is K R v d → Dp K H v (py d)) : ∀ (ds : List D) (vs : List V), ds.all (okD n) = true → IsA K R vs ds → DpAll K H vs (pys ds)
  | [], _, _, h => by cases h; exact .nil
  | d :: ds, _, h, ia => by
    rw [List.all_cons, Bool.and_eq_true] at h
    cases ia with
    | cons i1 i2 => exact .cons (ih d _ h.1 i1) (ok_all_dp e ih ds _ h.2 i2)
theorem ok_dp {K : PySem.W.Frag} {R H : Hp} (e : Same R H) : ∀ (n : Nat) (d : D) (v : V), okD n d = true → Is K R v d → Dp K H v (py d)
  | _, .non, _, _, i => by cases i; exact .non
  | _, .bl b, _, _, i => by cases i; exact .bl b
  | _, .int k, _, _, i => by cases i; exact .int k
  | _, .str x, _, _, i => by cases i; exact .str x
  | n + 1, .lst ds, _, h, i => by
    cases i with
    | lst q ia => exact .lst (SqL.of (e _ _ q)) (ok_all_dp e (ok_dp e n) ds _ h ia)
  | n + 1, .tup ds, _, h, i => by
    cases i with
    | tup q ia => exact .tup (same_sqT e q) (ok_all_dp e (ok_dp e n) ds _ h ia)
  | n + 1, .rol ds, _, h, i => by
    cases i with
    | rol q ia => exact .lst (same_sqL e q) (ok_all_dp e (ok_dp e n) ds _ h ia)
  | 0, .obj _ _ _, _, h, _ => by cases h
  | _ + 1, .obj _ _ _, _, h, _ => by cases h
  | 0, .at_ _, _, h, _ => by cases h
  | _ + 1, .at_ _, _, h, _ => by cases h
  | 0, .emp, _, h, _ => by cases h
  | 0, .dii _, _, h, _ => by cases h
  | _ + 1, .emp, _, h, _ => by cases h
  | _ + 1, .dii _, _, h, _ => by cases h
  | 0, .dct _ _ _, _, h, _ => by cases h
  | _ + 1, .dct _ _ _, _, h, _ => by cases h
theorem ok_nodict {n : Nat} {d : D} (h : okD n d = true) : (py d).hasDict = false := PyData.hasDict_of_canLay _ (ok_lay n d h)
theorem ok_shaped {n : Nat} {d : D} (h : okD n d = true) (hn : n ≤ 60) : SeqAt.shaped (py d) = true := by
  unfold SeqAt.shaped
  rw [ok_lay n d h, Bool.true_and]
  exact decide_eq_true (Nat.le_trans (ok_depth n d h) (by omega))
theorem okD_ints {n : Nat} : ∀ {ns : List Int}, (∀ i ∈ ns, i.natAbs.log2 < 1920) → (ns.map D.int).all (okD n) = true := fun {ns} h => by
  rw [List.all_eq_true]
  intro d hd
  obtain ⟨i, hi, rfl⟩ := List.mem_map.mp hd
  cases n <;> exact decide_eq_true (h i hi)

/-! repr -/
section
variable {X : Cx}
def rRepr (K : PySem.W.Frag) : List V → Hp → VK → Prop := fun xs H Q => ∃ x d, xs = [x] ∧ Dp K H x d ∧ d.showable = true ∧ d.hasDict = false ∧ d.depth ≤ 60 ∧ d.shown.length ≤ sizeLine ∧ Q (.str d.shown) H
theorem cr_repr (hu : X.A.units + 64 < cLine) (hg : X.A.guards = some []) : CallR X (.builtin "repr") (rRepr X.K) := by
  intro pins s σ H xs us Q I r h
  obtain ⟨x, d, rfl, hd, hs, hn, h6, hz, q⟩ := h
  obtain ⟨u, rfl, ru⟩ := vals1 r
  obtain ⟨as, hr⟩ := Dp.reads I d x u hd ru
  cases hr with
  | none => exact PySem.P.repr_of_none ⟨.str _, H, I.tok _, ⟨_, rfl⟩, q⟩
  | bool b => exact PySem.P.repr_of_bool ⟨.str _, H, I.tok _, ⟨_, rfl⟩, q⟩
  | int i t => exact PySem.P.repr_of_int (by simpa [PyData.showable] using hs) ⟨.str _, H, I.tok _, ⟨_, rfl⟩, q⟩
  | str y t => exact PySem.P.repr_of_str ⟨.str _, H, I.tok _, ⟨_, rfl⟩, q⟩ hz
  | list h1 h2 h3 h4 =>
    exact repr_of_reads' (Reads.list h1 h2 h3 h4) hs (PyData.noDict_hsm hn) hg (by omega) (fun _ _ e => e) (fun h' t tk k => ⟨.str _, H, I.kept (t' := tk) k, ⟨_, rfl⟩, q⟩) hz
  | tuple h1 h2 h3 h4 =>
    exact repr_of_reads' (Reads.tuple h1 h2 h3 h4) hs (PyData.noDict_hsm hn) hg (by omega) (fun _ _ e => e) (fun h' t tk k => ⟨.str _, H, I.kept (t' := tk) k, ⟨_, rfl⟩, q⟩) hz
  | dict h1 h2 h3 h4 h5 => exact absurd hn (by simp [PyData.hasDict])
variable {a b e : Expr} {es : List Expr} {δ δ1 δ2 : List Sl} {d d1 d2 : D} {ds : List D} {p pos : Pos} {k n : Nat}
theorem da_one (h : DE X a δ d δ1) (hs : starEach [a] X.env = (false, eval a X.env) :: starEach [] X.env := by exact st_any rfl) : DA X [a] δ [d] δ1 := da_cons h da_nil hs
/-- a built-in function of one argument, by its rule -/
theorem de_b1 {id : String} {x : Str} {r : List V → Hp → VK → Prop} (hc : CallR X (.builtin id) r) (hm : X.mg x = none) (hv : bootBuiltins x = some (.builtin id)) (h : DE X a δ d δ1) (hr : ∀ v H Q, (∀ R, Same R H → Is X.K R v d → (∀ z, (∀ R, Is X.K R z d2) → Q z H) → r [v] H Q))
    (hg : Gl X x := by rfl) (hn : x ≠ "__name__" := by decide) (hdb : (x == ("__debug__" : Str)) = false := by decide) (he : starEach [a] X.env = (false, eval a X.env) :: starEach [] X.env := by exact st_any rfl) (hpl : (backTo pos (starEach [] X.env)).any (·.1) = false := by rfl) :
    DE X (.Call (.Name x p) [a] [] pos) δ d2 δ1 := fun F R H σ Q s k =>
  (pe_callB hc hg hm hv paW hn hdb he hpl).w ((da_one h he) F R H σ _ s fun vs R1 H1 t1 s1 ia => by
    cases ia with
    | cons i1 i2 =>
      cases i2
      exact hr _ H1 Q R1 s1.rg i1 fun z hz => k z R1 H1 t1 s1 (hz R1))
theorem de_repr (g : Gx X k) (hm : X.mg "repr" = none) (h : DE X a δ d δ1) (ok : okD n d = true) (hn6 : n ≤ 60) (hz : cst n d ≤ 16000000) (hg : Gl X "repr" := by rfl) (he : starEach [a] X.env = (false, eval a X.env) :: starEach [] X.env := by exact st_any rfl) (hpl : (backTo pos (starEach [] X.env)).any (·.1) = false := by rfl) :
    DE X (.Call (.Name "repr" p) [a] [] pos) δ (.str (py d).shown) δ1 :=
  de_b1 (cr_repr g.rm.units g.gd) hm PyProof.Rows.boot_repr h (fun v H Q R e iv kz => ⟨v, py d, rfl, ok_dp e n d v ok iv, ok_show n d ok, ok_nodict ok, Nat.le_trans (ok_depth n d ok) hn6, by
    have := ok_cost n d ok
    rw [sizeLine_eq]
    omega, kz _ fun _ => .str _⟩) hg (by decide) (by decide) he hpl
/-! == and != of data -/
theorem de_eqD (g : Gx X k) (ha : DE X a δ d1 δ1) (hb : DE X b δ1 d2 δ2) (o1 : okD n d1 = true) (o2 : okD n d2 = true) (hn6 : n ≤ 60 := by decide) : DE X (.Compare a [.Eq] [b] pos) δ (.bl (PyData.eqv (py d1) (py d2))) δ2 := fun F R H σ Q s kq =>
  (pe_cmpR (op_eqD g.rm.units) peW peW (nomark _)).w (ha F R H σ _ s fun x R1 H1 t1 s1 ix => hb F R1 H1 σ _ s1 fun y R2 H2 t2 s2 iy =>
    ⟨_, _, ok_dp s2.rg n d1 x o1 (ix.mono t2.ex), ok_dp s2.rg n d2 y o2 iy, ok_shaped o1 hn6, ok_shaped o2 hn6, kq _ R2 H2 (t1.trans t2) s2 (.bl _)⟩)
theorem de_neD (g : Gx X k) (ha : DE X a δ d1 δ1) (hb : DE X b δ1 d2 δ2) (o1 : okD n d1 = true) (o2 : okD n d2 = true) (hn6 : n ≤ 60 := by decide) : DE X (.Compare a [.NotEq] [b] pos) δ (.bl (!PyData.eqv (py d1) (py d2))) δ2 := fun F R H σ Q s kq =>
  (pe_cmpR (op_neD g.rm.units) peW peW (nomark _)).w (ha F R H σ _ s fun x R1 H1 t1 s1 ix => hb F R1 H1 σ _ s1 fun y R2 H2 t2 s2 iy =>
    ⟨_, _, ok_dp s2.rg n d1 x o1 (ix.mono t2.ex), ok_dp s2.rg n d2 y o2 iy, ok_shaped o1 hn6, ok_shaped o2 hn6, kq _ R2 H2 (t1.trans t2) s2 (.bl _)⟩)
end
theorem eqvAll_ints : ∀ ns ms : List Int, PyData.eqvAll (pys (ns.map D.int)) (pys (ms.map D.int)) = decide (ns = ms)
  | [], [] => rfl
  | [], _ :: _ => rfl
  | _ :: _, [] => rfl
  | n :: ns, m :: ms => by
    show (n == m && PyData.eqvAll (pys (ns.map D.int)) (pys (ms.map D.int))) = _
    rw [eqvAll_ints ns ms]
    by_cases h : n = m
    · subst h
      by_cases h2 : ns = ms
      · subst h2; simp
      · simp [h2]
    · simp [h]
theorem eqv_tints (ns ms : List Int) : PyData.eqv (py (.tup (ns.map D.int))) (py (.tup (ms.map D.int))) = decide (ns = ms) := eqvAll_ints ns ms
theorem eqv_lints (ns ms : List Int) : PyData.eqv (py (.lst (ns.map D.int))) (py (.lst (ms.map D.int))) = decide (ns = ms) := eqvAll_ints ns ms

/-! places of lists and tuples -/
section
variable {K : PySem.W.Frag} {R : Hp} {vs : List V} {ds : List D} {i : Int} {d : D}
theorem IsA.atI (ia : IsA K R vs ds) (h : L2.atI ds i = some d) : ∃ v, L2.atI vs i = some v ∧ Is K R v d := by
  unfold L2.atI at h ⊢
  rw [ia.len]
  cases e : ixN ds.length i with
  | none =>
    rw [e] at h
    cases h
  | some j =>
    rw [e] at h
    exact ia.get h
end
def cutD (ds : List D) (lo hi : Option Int) : List D := (ds.drop (HT.sIx ds.length 0 lo)).take (HT.sIx ds.length ds.length hi - HT.sIx ds.length 0 lo)
theorem IsA.cut {K : PySem.W.Frag} {R : Hp} {vs : List V} {ds : List D} (ia : IsA K R vs ds) (lo hi : Option Int) : IsA K R (cutV vs lo hi) (cutD ds lo hi) := by
  unfold cutV cutD
  rw [ia.len]
  exact (ia.drop _).take _
section
variable {X : Cx} {a b e : Expr} {es : List Expr} {δ δ1 δ2 δ3 : List Sl} {d : D} {ds : List D} {p pos : Pos} {i : Int} {y : Str}
theorem de_ixL (ha : DE X a δ (.lst ds) δ1) (hb : DE X b δ1 (.int i) δ2) (h : L2.atI ds i = some d) (hs : PlainIx b := by exact fun _ _ => rfl) : DE X (.Subscript a b pos) δ d δ2 := fun F R H σ Q s k =>
  (pe_ix ix_list peW peW hs).w (ha F R H σ _ s fun x R1 H1 t1 s1 ix => hb F R1 H1 σ _ s1 fun z R2 H2 t2 s2 iz => by
    cases iz
    cases ix with
    | lst q ia =>
      obtain ⟨v, hv, iv⟩ := ia.atI h
      exact ⟨_, _, i, v, rfl, rfl, SqL.of (s2.rg _ _ (t2.ex _ _ q)), hv, k v R2 H2 (t1.trans t2) s2 (iv.mono t2.ex)⟩)
theorem de_ixR (ha : DE X a δ (.rol ds) δ1) (hb : DE X b δ1 (.int i) δ2) (h : L2.atI ds i = some d) (hs : PlainIx b := by exact fun _ _ => rfl) : DE X (.Subscript a b pos) δ d δ2 := fun F R H σ Q s k =>
  (pe_ix ix_list peW peW hs).w (ha F R H σ _ s fun x R1 H1 t1 s1 ix => hb F R1 H1 σ _ s1 fun z R2 H2 t2 s2 iz => by
    cases iz
    cases ix with
    | rol q ia =>
      obtain ⟨v, hv, iv⟩ := ia.atI h
      exact ⟨_, _, i, v, rfl, rfl, same_sqL (t2.ex.trans s2.rg) q, hv, k v R2 H2 (t1.trans t2) s2 (iv.mono t2.ex)⟩)
theorem de_ixT (ha : DE X a δ (.tup ds) δ1) (hb : DE X b δ1 (.int i) δ2) (h : L2.atI ds i = some d) (hs : PlainIx b := by exact fun _ _ => rfl) : DE X (.Subscript a b pos) δ d δ2 := fun F R H σ Q s k =>
  (pe_ix ix_tup peW peW hs).w (ha F R H σ _ s fun x R1 H1 t1 s1 ix => hb F R1 H1 σ _ s1 fun z R2 H2 t2 s2 iz => by
    cases iz
    cases ix with
    | tup q ia =>
      obtain ⟨v, hv, iv⟩ := ia.atI h
      exact ⟨_, _, i, v, rfl, rfl, same_sqT (t2.ex.trans s2.rg) q, hv, k v R2 H2 (t1.trans t2) s2 (iv.mono t2.ex)⟩)
/-- own[b] -/
theorem de_ixO {r : Addr} {yp : Pos} {gs : List D} (m : Nat) (hi : δ[m]? = some (.own r gs)) (hb : DE X b δ (.int i) δ1) (hi1 : δ1[m]? = some (.own r ds)) (h : L2.atI ds i = some d) (hN : X.N[m]? = some y := by rfl) (hv : Vis X.env.scope y := by first | exact Or.inl rfl | exact Or.inr (Or.inl rfl) | exact Or.inr (Or.inr rfl))
    (hs : PlainIx b := by exact fun _ _ => rfl) (hyd : (y == ("__debug__" : Str)) = false := by decide) (hyc : (y == ("__classdict__" : Str)) = false := by decide) : DE X (.Subscript (.Name y yp) b pos) δ d δ1 := fun F R H σ Q s k =>
  (pe_ix ix_list (pe_var hN hv hyd hyc) peW hs).w ⟨.ref r, (s.at_ m _ hi).1, hb F R H σ _ s fun z R1 H1 t1 s1 iz => by
    cases iz
    obtain ⟨z1, z2, z3, xs, z4, ia⟩ := s1.at_ m _ hi1
    obtain ⟨v, hv, iv⟩ := ia.atI h
    exact ⟨_, _, i, v, rfl, rfl, SqL.of z4, hv, k v R1 H1 t1 s1 iv⟩⟩
/-- own[j] = e -/
theorem ds_setI {r : Addr} {yp tp : Pos} {gs : List D} {j : Nat} {Φ : DD} (m : Nat) (he : DE X e δ d δ1) (hi : δ1[m]? = some (.own r gs)) (hb : DE X b δ1 (.int i) δ2) (hi2 : δ2[m]? = some (.own r ds)) (h : ixN ds.length i = some j) (q : Φ.nx (δ2.set m (.own r (ds.set j d)))) (hN : X.N[m]? = some y := by rfl)
    (hv : Vis X.env.scope y := by first | exact Or.inl rfl | exact Or.inr (Or.inl rfl) | exact Or.inr (Or.inr rfl)) (hyd : (y == ("__debug__" : Str)) = false := by decide) (hyc : (y == ("__classdict__" : Str)) = false := by decide)
    (ha : ∀ v, assign (.Subscript (.Name y yp) b tp) X.env v = (do
      let ov ← holding [v] (eval (.Name y yp) X.env)
      let iv ← holding [v, ov] (eval b X.env)
      standAt tp
      holding [v, ov, iv] (setItem ov iv v)
      release [v, ov, iv] []) := by intro _; rfl)
    (hs : swapsWithSole [.Subscript (.Name y yp) b tp] e pos.line X.env = pure false := by rfl) (hw : swappedStores [.Subscript (.Name y yp) b tp] e X.env = pure none := by rfl) (h1 : (assignEach [.Subscript (.Name y yp) b tp] X.env).map (·.2) = [assign (.Subscript (.Name y yp) b tp) X.env] := by rfl) :
    DS X (.Assign [.Subscript (.Name y yp) b tp] e pos) δ Φ := fun F R H σ E s k =>
  (ps_asg peW (pg_sub (pe_var hN hv hyd hyc) peW set_list ha) hs hw h1).w (he F R H σ _ s fun v R1 H1 t1 s1 iv => ⟨.ref r, (s1.at_ m _ hi).1, hb F R1 H1 σ _ s1 fun z R2 H2 t2 s2 iz => by
    cases iz
    obtain ⟨z1, z2, z3, xs, z4, ia⟩ := s2.at_ m _ hi2
    exact ⟨r, xs, i, j, rfl, rfl, z4, by rw [ia.len]; exact h, k.nx R2 _ σ _ (t1.trans t2) (s2.updO hi2 (IsA.set (iv.mono t2.ex) j ia)) q⟩⟩)
/-- own.append(e) -/
theorem ds_app {r : Addr} {yp ap tp : Pos} {gs : List D} {Φ : DD} (m : Nat) (hi : δ[m]? = some (.own r gs)) (he : DE X e δ d δ1) (hi1 : δ1[m]? = some (.own r ds)) (hz : ds.length < 1000000) (q : Φ.nx (δ1.set m (.own r (ds ++ [d])))) (hN : X.N[m]? = some y := by rfl)
    (hv : Vis X.env.scope y := by first | exact Or.inl rfl | exact Or.inr (Or.inl rfl) | exact Or.inr (Or.inr rfl)) (hyd : (y == ("__debug__" : Str)) = false := by decide) (hyc : (y == ("__classdict__" : Str)) = false := by decide)
    (p0 : ∀ {ta : TE} {t : TA}, PE X (.Name y yp) ta → PA X [e] t → PE X (.Call (.Attribute (.Name y yp) "append" ap) [e] [] tp) (tBM X.K "list" rAppend ta t)) (hs : swapsWith (.Call (.Attribute (.Name y yp) "append" ap) [e] [] tp) none pos.line X.env = pure false := by rfl) (hst : starEach [e] X.env = (false, eval e X.env) :: starEach [] X.env := by exact st_any rfl) :
    DS X (.Expr (.Call (.Attribute (.Name y yp) "append" ap) [e] [] tp) pos) δ Φ := fun F R H σ E s k =>
  (ps_expr (p0 (pe_var hN hv hyd hyc) paW) hs).w ⟨.ref r, (s.at_ m _ hi).1, by
    obtain ⟨z1, z2, z3, xs, z4, ia⟩ := s.at_ m _ hi
    exact .inl ⟨rfl, xs, SqL.of z4⟩, (da_one he hst) F R H σ _ s fun vs R1 H1 t1 s1 iv => by
    cases iv with
    | cons i1 i2 =>
      cases i2
      obtain ⟨z1, z2, z3, xs, z4, ia⟩ := s1.at_ m _ hi1
      exact ⟨r, xs, _, rfl, rfl, z4, by rw [ia.len, sizeLine_eq]; omega, k.nx R1 _ σ _ t1 (s1.updO hi1 (ia.app (.cons i1 .nil))) q⟩⟩
/-! slices -/
def DP (X : Cx) (o : Option Expr) (δ : List Sl) (r : Option Int) (δ' : List Sl) : Prop := ∀ (F R H : Hp) (σ : L2.St) (Q : Option Int → Hp → Prop), StOk X.K F R H σ δ → (∀ R2 H2, Tr F R R2 → StOk X.K F R2 H2 σ δ' → Q r H2) → ∃ t, PO X o t ∧ t σ H Q
theorem dp_none : DP X none δ none δ := fun F R H σ Q s k => ⟨_, po_none, k R H (Tr.refl _ _) s⟩
theorem dp_some (h : DE X e δ (.int i) δ1) : DP X (some e) δ (some i) δ1 := fun F R H σ Q s k => ⟨_, po_some peW, h F R H σ _ s fun v R1 H1 t1 s1 iv => by
  cases iv
  exact ⟨i, rfl, k R1 H1 t1 s1⟩⟩
theorem poW {o : Option Expr} : PO X o (fun σ H Q => ∃ t, PO X o t ∧ t σ H Q) := ⟨fun pins s σ H Q I ⟨t, p, h⟩ => p.run pins s σ H Q I h⟩
theorem do_slL {lo hi : Option Expr} {l h : Option Int} {p2 : Pos} (ha : DE X a δ (.lst ds) δ1) (hl : DP X lo δ1 l δ2) (hh : DP X hi δ2 h δ3) : DO X (.Subscript a (.Slice lo hi none p2) pos) δ (cutD ds l h) δ3 := fun F R H σ Q s k =>
  (pe_slice sl_list peW poW poW).w (ha F R H σ _ s fun x R1 H1 t1 s1 ix => hl F R1 H1 σ _ s1 fun R2 H2 t2 s2 => hh F R2 H2 σ _ s2 fun R3 H3 t3 s3 => by
    cases ix with
    | lst q ia =>
      refine ⟨_, _, rfl, SqL.of (s3.rg _ _ ((t2.trans t3).ex _ _ q)), fun p hp => k p _ R3 _ ((t1.trans t2).trans t3) (s3.off hp) (s3.fr.free hp) (s3.rg.free hp) upd_same ((ia.mono (t2.trans t3).ex).cut l h) fun i es q => ?_⟩
      obtain ⟨_, _, _, ys, hy, _⟩ := s3.at_ i _ q
      rw [hp] at hy
      cases hy)
theorem do_slR {lo hi : Option Expr} {l h : Option Int} {p2 : Pos} (ha : DE X a δ (.rol ds) δ1) (hl : DP X lo δ1 l δ2) (hh : DP X hi δ2 h δ3) : DO X (.Subscript a (.Slice lo hi none p2) pos) δ (cutD ds l h) δ3 := fun F R H σ Q s k =>
  (pe_slice sl_list peW poW poW).w (ha F R H σ _ s fun x R1 H1 t1 s1 ix => hl F R1 H1 σ _ s1 fun R2 H2 t2 s2 => hh F R2 H2 σ _ s2 fun R3 H3 t3 s3 => by
    cases ix with
    | rol q ia =>
      refine ⟨_, _, rfl, same_sqL ((t2.trans t3).ex.trans s3.rg) q, fun p hp => k p _ R3 _ ((t1.trans t2).trans t3) (s3.off hp) (s3.fr.free hp) (s3.rg.free hp) upd_same ((ia.mono (t2.trans t3).ex).cut l h) fun i es q => ?_⟩
      obtain ⟨_, _, _, ys, hy, _⟩ := s3.at_ i _ q
      rw [hp] at hy
      cases hy)
/-! + of lists and tuples -/
theorem do_cat {ds2 : List D} (ha : DE X a δ (.lst ds) δ1) (hb : DE X b δ1 (.lst ds2) δ2) (hz : ds.length + ds2.length ≤ 1000000) : DO X (.BinOp a .Add b pos) δ (ds ++ ds2) δ2 := fun F R H σ Q s k =>
  (pe_op op_cat peW peW).w (ha F R H σ _ s fun x R1 H1 t1 s1 ix => hb F R1 H1 σ _ s1 fun z R2 H2 t2 s2 iz => by
    cases ix with
    | lst q ia =>
      cases iz with
      | lst q2 ia2 =>
        refine ⟨_, _, _, _, rfl, rfl, s2.rg _ _ (t2.ex _ _ q), s2.rg _ _ q2, by rw [ia.len, ia2.len, sizeLine_eq]; omega, fun p hp => k p _ R2 _ (t1.trans t2) (s2.off hp) (s2.fr.free hp) (s2.rg.free hp) upd_same ((ia.mono t2.ex).app ia2) fun i es q => ?_⟩
        obtain ⟨_, _, _, ys, hy, _⟩ := s2.at_ i _ q
        rw [hp] at hy
        cases hy)
end
end Dy

/-! part Zn -/
namespace Dz
open PySem PySem.Spec PyProof.Rows L2

/-! zip of any number of tuples, whatever the target -/
section
variable {M : Model} {A : Around} {E : Value → Shared → Prop}
theorem forIn_walk {α β : Type} : ∀ {l : List α} {f : α → β → Sem (ForInStep β)} (I : Nat → β → Shared → Prop), (∀ i x b s, l[i]? = some x → I i b s → wpAny M A (f x b) (fun r s' => ∃ b', r = ForInStep.yield b' ∧ I (i + 1) b' s') E s) →
    ∀ {b : β} {s : Shared} {Q : β → Shared → Prop}, I 0 b s → (∀ b' s', I l.length b' s' → Q b' s') → wpAny M A (forIn l b f) Q E s
  | [], f, I, _, b, s, Q, h0, hd => by
    rw [List.forIn_nil]
    exact wpAny_pure (hd b s h0)
  | x :: l, f, I, step, b, s, Q, h0, hd => by
    rw [List.forIn_cons]
    refine wpAny_bind (wpAny_mono (step 0 x b s rfl h0) (fun r s' h => ?_) fun _ _ z => z)
    obtain ⟨b', rfl, hi⟩ := h
    exact forIn_walk (l := l) (f := f) (fun i => I (i + 1)) (fun i y b s hy hI => step (i + 1) y b s (by simpa using hy) hI) hi fun b' s' hI => hd b' s' hI
end

/-- the iterators its stand at k over the tuples ls -/
def ItsAt (h : Heap) (its ls : List Addr) (f : Nat → Nat) : Prop := ∀ (j : Nat) (it l : Addr), its[j]? = some it → ls[j]? = some l → h.IsTupleIter it l (f j)
def ZipObj (h : Heap) (z TI TO : Addr) (f0 : Value) (b : Bool) : Prop := h.get? z = some (Obj.mk (.type "zip") none (.fields #[f0, .bool b, .bool false, .ref TI, .ref TO]) #[])
def TupObj (h : Heap) (T : Addr) (vs : List Value) : Prop := h.get? T = some (Obj.mk (.type "tuple") none (.seq vs.toArray) #[])
structure ZipN (h : Heap) (z TI TO : Addr) (its ls : List Addr) (k : Nat) : Prop where
  zo : ∃ f0 b, (f0 = Value.none ∨ ∃ T : Nat, f0 = rawInt T) ∧ ZipObj h z TI TO f0 b
  ti : TupObj h TI (its.map Value.ref)
  to : ∃ vs, vs.length = its.length ∧ TupObj h TO vs
  at_ : ItsAt h its ls fun _ => k
structure Apart (z TI TO : Addr) (its ls : List Addr) : Prop where
  len : its.length = ls.length
  nd : its.Nodup
  zTI : TI ≠ z
  zTO : TO ≠ z
  TITO : TI ≠ TO
  zi : z ∉ its
  TIi : TI ∉ its
  TOi : TO ∉ its
  lz : z ∉ ls
  lTI : TI ∉ ls
  lTO : TO ∉ ls
  li : ∀ i ∈ its, i ∉ ls
/-- all others are kept -/
def Kept (fp : List Addr) (h h' : Heap) : Prop := ∀ c o, c ∉ fp → h.get? c = some o → h'.get? c = some o
section
variable {prog : Program} {w : World} {A : Around} {E : Value → Shared → Prop} {s : Shared} {z TI TO : Addr} {its ls : List Addr} {k : Nat} {vs : List Value}
/-- what stands in the tuples at the place k -/
def Now (h : Heap) (its ls : List Addr) (k : Nat) (vs : List Value) : Prop := ∀ (j : Nat) (l : Addr), ls[j]? = some l → ∃ xs : Array Value, h.IsTuple l xs ∧ ∃ v, xs[k]? = some v ∧ vs[j]? = some v
theorem tuple_keep {h h' : Heap} {fp : List Addr} {l : Addr} {xs : Array Value} (t : h.IsTuple l xs) (kp : Kept fp h h') (hl : l ∉ fp) : h'.IsTuple l xs := by
  obtain ⟨o, e, r⟩ := t
  exact ⟨o, kp l o hl e, r⟩
theorem get_new {l : List Addr} (nd : l.Nodup) {i j : Nat} {a : Addr} (h1 : l[i]? = some a) (h2 : l[j]? = some a) : i = j := L2.nd_ix nd h1 h2
theorem take_set {α : Type} {ws vs : List α} {j : Nat} {v : α} (h : ws.take j = vs.take j) (hl : j < ws.length) (hv : vs[j]? = some v) : (ws.set j v).take (j + 1) = vs.take (j + 1) := by
  rw [List.take_add_one, List.take_add_one, hv, List.getElem?_set_self hl, List.take_set_of_le (Nat.le_refl j), h]
theorem alive_any {a : Addr} {Q : Option Obj → Shared → Prop} (h : Q (s.heap.get? a) s) : wpAny (model prog w) A (loadIfAlive a) Q E s := fun _ _ _ => h
/-- whether the tuple given out last may be used again: both ways -/
theorem own_free {f0 : Value} {b0 : Bool} (hf : f0 = Value.none ∨ ∃ T : Nat, f0 = rawInt T) (hz : ZipObj s.heap z TI TO f0 b0) {Q : Bool → Shared → Prop} (h1 : Q true s)
    (h2 : ∀ h', ZipObj h' z TI TO f0 true → Heap.SameBut z s.heap h' → Q false { s with heap := h' }) : wpAny (model prog w) A (Builtin.SmallTypes.ownedTupleIsFree (.ref z)) Q E s := by
  unfold Builtin.SmallTypes.ownedTupleIsFree
  have hz' : s.heap.get? z = some (Obj.mk (.type "zip") none (.fields #[f0, .bool b0, .bool false, .ref TI, .ref TO]) #[]) := hz
  refine wpAny_bind (wpAny_field hz' rfl (x := f0) rfl ?_)
  rcases hf with rfl | ⟨T, rfl⟩
  · exact wpAny_pure h1
  · show wpAny _ _ (loadIfAlive ((T : Int).toNat) >>= _) _ _ _
    refine wpAny_bind (alive_any ?_)
    cases s.heap.get? ((T : Int).toNat) with
    | none =>
      simp only [Option.isNone_none, if_true]
      exact wpAny_pure h1
    | some o =>
      simp only [Option.isNone_some, Bool.false_eq_true, if_false]
      refine wpAny_bind (wpAny_field hz' rfl (x := .bool b0) rfl ?_)
      cases b0 with
      | true =>
        rw [if_neg (show ¬ ((Value.bool true != Value.bool true) = true) from Bool.false_ne_true)]
        exact wpAny_pure (h2 s.heap hz (Heap.SameBut.refl _ _))
      | false =>
        rw [if_pos (show (Value.bool false != Value.bool true) = true from rfl)]
        exact wpAny_bind (wpAny_setField_rec hz' (by simp) fun h₁ hz₁ hs₁ => wpAny_pure (h2 h₁ hz₁ hs₁))
theorem same_get {h h' : Heap} {a b : Addr} {o : Obj} (x : Heap.SameBut a h h') (n : b ≠ a) (e : h.get? b = some o) : h'.get? b = some o := (x.2 b n).trans e
theorem iter_same {h h' : Heap} {a it l : Addr} {i : Nat} (t : h.IsTupleIter it l i) (x : Heap.SameBut a h h') (n : it ≠ a) : h'.IsTupleIter it l i := t.at fun o e => same_get x n e
/-- the iterators from the j-th on are still at k -/
abbrev upTo (k j : Nat) : Nat → Nat := fun m => if m < j then k + 1 else k
theorem its_next {h h' : Heap} {j : Nat} {it l : Addr} (D : Apart z TI TO its ls) (I : ItsAt h its ls (upTo k j)) (hi : its[j]? = some it) (hl : ls[j]? = some l) (ht : h'.IsTupleIter it l (k + 1)) (sb : Heap.SameBut it h h') : ItsAt h' its ls (upTo k (j + 1)) := by
  intro m im lm h1 h2
  by_cases e : m = j
  · subst e
    rw [hi] at h1
    rw [hl] at h2
    cases h1
    cases h2
    show h'.IsTupleIter it l (if m < m + 1 then k + 1 else k)
    rw [if_pos (Nat.lt_succ_self m)]
    exact ht
  · have ne : im ≠ it := fun q => e (get_new D.nd h1 (by rw [q]; exact hi))
    have z := iter_same (I m im lm h1 h2) sb ne
    have e2 : upTo k j m = upTo k (j + 1) m := by
      show (if m < j then k + 1 else k) = (if m < j + 1 then k + 1 else k)
      by_cases h3 : m < j
      · rw [if_pos h3, if_pos (by omega)]
      · rw [if_neg h3, if_neg (by omega)]
    rw [← e2]
    exact z
theorem its_end {h : Heap} (D : Apart z TI TO its ls) (I : ItsAt h its ls (upTo k its.length)) : ItsAt h its ls fun _ => k + 1 := fun m im lm h1 h2 => by
  have z := I m im lm h1 h2
  have hm : m < its.length := (List.getElem?_eq_some_iff.mp h1).1
  have e : upTo k its.length m = k + 1 := if_pos hm
  rw [e] at z
  exact z
theorem its_start {h : Heap} (I : ItsAt h its ls fun _ => k) : ItsAt h its ls (upTo k 0) := fun m im lm h1 h2 => by
  have z := I m im lm h1 h2
  have e : upTo k 0 m = k := if_neg (Nat.not_lt_zero m)
  rw [e]
  exact z
theorem its_keep {h h' : Heap} {f : Nat → Nat} (I : ItsAt h its ls f) (kp : ∀ it ∈ its, ∀ o, h.get? it = some o → h'.get? it = some o) : ItsAt h' its ls f := fun m im lm h1 h2 => (I m im lm h1 h2).at fun o e => kp im (List.mem_of_getElem? h1) o e
/-- one draw -/
theorem zipN_next (D : Apart z TI TO its ls) (hne : its ≠ []) (hlen : its.length ≤ 1000) (Z : ZipN s.heap z TI TO its ls k) (hv : vs.length = its.length) (N : Now s.heap its ls k vs) {Q : Value → Shared → Prop}
    (hQ : ∀ (h' : Heap) (T : Addr), ZipN h' z TI TO its ls (k + 1) → TupObj h' T vs → s.heap.objs.size ≤ T → Kept (z :: TI :: TO :: its) s.heap h' → Q (.ref T) { s with heap := h' }) :
    wpAny (model prog w) A (Builtin.«zip.__next__» ⟨[.ref z], []⟩) (fun fin s' => ∃ v, fin = .done (.ret v) ∧ Q v s') E s := by
  obtain ⟨f0, b0, hf, hz⟩ := Z.zo
  have hz' : s.heap.get? z = some (Obj.mk (.type "zip") none (.fields #[f0, .bool b0, .bool false, .ref TI, .ref TO]) #[]) := hz
  have hti : s.heap.get? TI = some (Obj.mk (.type "tuple") none (.seq (its.map Value.ref).toArray) #[]) := Z.ti
  obtain ⟨w0, hw0, hto0⟩ := Z.to
  have lsi : ∀ {j : Nat} {it : Addr}, its[j]? = some it → ∃ l, ls[j]? = some l := fun {j it} h => by
    have : j < ls.length := by rw [← D.len]; exact (List.getElem?_eq_some_iff.mp h).1
    exact ⟨_, List.getElem?_eq_getElem this⟩
  have lno : ∀ {j : Nat} {l : Addr}, ls[j]? = some l → l ∉ z :: TI :: TO :: its := fun {j l} h q => by
    have m := List.mem_of_getElem? h
    rcases List.mem_cons.mp q with e | q
    · exact D.lz (e ▸ m)
    · rcases List.mem_cons.mp q with e | q
      · exact D.lTI (e ▸ m)
      · rcases List.mem_cons.mp q with e | q
        · exact D.lTO (e ▸ m)
        · exact D.li l q m
  show wpAny _ _ (field (.ref z) 2 >>= _) _ _ _
  refine wpAny_bind (wpAny_field hz' rfl (x := .bool false) rfl ?_)
  show wpAny _ _ (field (.ref z) 3 >>= _) _ _ _
  refine wpAny_bind (wpAny_field hz' rfl (x := .ref TI) rfl ?_)
  refine wpAny_bind (wpAny_seqItems hti rfl ?_)
  have hemp : (its.map Value.ref).toArray.isEmpty = false := by
    cases its with
    | nil => exact absurd rfl hne
    | cons a r => rfl
  simp only [hemp, Bool.false_eq_true, if_false]
  show wpAny _ _ (Builtin.SmallTypes.ownedTupleIsFree (.ref z) >>= _) _ _ _
  refine wpAny_bind (own_free hf hz ?_ fun h₁ hz₁ hs₁ => ?_)
  · -- the kept tuple is filled again
    simp only [if_true]
    refine wpAny_bind (wpAny_rule ?_)
    refine wpAny_bind (wpAny_field hz' rfl (x := .ref TO) rfl ?_)
    refine wpAny_bind (wpAny_setField_rec hz' (by simp) fun h₁ hz₁ hs₁ => ?_)
    replace hz₁ : ZipObj h₁ z TI TO .ellipsis b0 := hz₁
    refine wpAny_bind ?_
    refine forIn_walk (fun j b s' => b = (none, ()) ∧ ∃ h, s' = { s with heap := h } ∧ ZipObj h z TI TO .ellipsis b0 ∧ TupObj h TI (its.map Value.ref) ∧ (∃ ws, ws.length = its.length ∧ ws.take j = vs.take j ∧ TupObj h TO ws) ∧ ItsAt h its ls (upTo k j) ∧ Kept (z :: TI :: TO :: its) s.heap h ∧ h.objs.size = s.heap.objs.size) ?_ ?_ ?_
    · rintro j ⟨itv, m⟩ b s' hj ⟨rfl, h, rfl, iz, iti, ⟨ws, hws, hwt, ito⟩, ii, kp, hsz⟩
      rw [List.getElem?_zipIdx] at hj
      obtain ⟨it, hit, rfl, rfl⟩ : ∃ it, its[j]? = some it ∧ itv = Value.ref it ∧ m = j := by
        simp only [List.getElem?_map, Option.map_map] at hj
        cases e : its[j]? with
        | none =>
          rw [e] at hj
          cases hj
        | some it =>
          rw [e] at hj
          cases hj
          exact ⟨it, rfl, rfl, by simp⟩
      obtain ⟨l, hl⟩ := lsi hit
      obtain ⟨xs, hxs, v, hxk, hvj⟩ := N m l hl
      have hm : m < its.length := (List.getElem?_eq_some_iff.mp hit).1
      have itn : it ∈ its := List.mem_of_getElem? hit
      have t0 : h.IsTupleIter it l k := by
        have q := ii m it l hit hl
        have e : upTo k m m = k := if_neg (Nat.lt_irrefl m)
        rw [e] at q
        exact q
      refine wpAny_bind (wpAny_onRaise ?_)
      show wpAny _ _ (Builtin.SmallTypes.nextOf (.ref it) >>= _) _ _ _
      refine wpAny_bind (RZ.nextOf_tuple_item (s := { s with heap := h }) t0 (tuple_keep hxs kp (lno hl)) hxk fun h2 t2 sb2 => wpAny_pure ?_)
      have zne : z ≠ it := fun e => D.zi (e ▸ itn)
      have tine : TI ≠ it := fun e => D.TIi (e ▸ itn)
      have tone : TO ≠ it := fun e => D.TOi (e ▸ itn)
      have ito2 : h2.get? TO = some (Obj.mk (.type "tuple") none (.seq ws.toArray) #[]) := same_get sb2 tone ito
      refine wpAny_bind (wpAny_seqItems ito2 rfl ?_)
      refine wpAny_bind (wpAny_updateSeq ito2 rfl ?_ (by rw [List.size_toArray, sizeLine_eq]; omega) (by rw [Array.size_setIfInBounds, List.size_toArray, sizeLine_eq]; omega))
      refine wpAny_bind (wpAny_letGo (wpAny_pure ?_))
      have sb3 : Heap.SameBut TO h2 (h2.update TO (Obj.mapSeq fun x_1 => x_1.setIfInBounds m v)) := Heap.SameBut.update ..
      have up : (h2.update TO (Obj.mapSeq fun x_1 => x_1.setIfInBounds m v)).get? TO = some (Obj.mk (.type "tuple") none (.seq (ws.set m v).toArray) #[]) := by
        rw [Heap.get?_update_self _ ito2 rfl]
        simp [Obj.mapSeq]
      refine ⟨_, rfl, rfl, _, rfl, same_get sb3 D.zTO.symm (same_get sb2 zne iz), same_get sb3 D.TITO (same_get sb2 tine iti), ⟨ws.set m v, by rw [List.length_set]; exact hws, take_set hwt (by rw [hws]; exact hm) hvj, up⟩, ?_, ?_, ?_⟩
      · exact its_keep (its_next D ii hit hl t2 sb2) fun im him o e => same_get sb3 (fun q => D.TOi (q ▸ him)) e
      · intro c o hc e
        have c1 : c ≠ it := fun q => hc (by rw [q]; exact List.mem_cons_of_mem _ (List.mem_cons_of_mem _ (List.mem_cons_of_mem _ itn)))
        have c2 : c ≠ TO := fun q => hc (by rw [q]; exact List.mem_cons_of_mem _ (List.mem_cons_of_mem _ List.mem_cons_self))
        exact same_get sb3 c2 (same_get sb2 c1 (kp c o hc e))
      · show (h2.update TO _).objs.size = _
        rw [sb3.1, sb2.1, hsz]
    · refine ⟨rfl, h₁, rfl, hz₁, same_get hs₁ D.zTI hti, ⟨w0, hw0, rfl, same_get hs₁ D.zTO hto0⟩, its_start (its_keep Z.at_ fun im him o e => same_get hs₁ (fun q => D.zi (q ▸ him)) e), fun c o hc e => same_get hs₁ (fun q => hc (by rw [q]; exact List.mem_cons_self)) e, hs₁.1⟩
    · rintro b' s' ⟨rfl, h, rfl, iz, iti, ⟨ws, hws, hwt, ito⟩, ii, kp, hsz⟩
      have hl2 : (List.map Value.ref its).toArray.toList.zipIdx.length = its.length := by simp
      rw [hl2] at hwt ii
      have ew : ws = vs := by
        rw [List.take_of_length_le (by omega), List.take_of_length_le (by omega)] at hwt
        exact hwt
      subst ew
      have ito2 : h.get? TO = some (Obj.mk (.type "tuple") none (.seq ws.toArray) #[]) := ito
      show wpAny _ _ (seqItems? (.ref TO) >>= _) _ _ _
      refine wpAny_bind (wpAny_seqItems ito2 rfl ?_)
      refine wpAny_bind (wpAny_newTuple ?_ (by show ws.length ≤ sizeLine; rw [sizeLine_eq]; omega))
      show wpAny _ _ (Builtin.SmallTypes.ownedTupleHandOut (.ref z) (.ref h.objs.size) >>= _) _ _ _
      refine wpAny_bind ?_
      unfold Builtin.SmallTypes.ownedTupleHandOut
      have iz2 : (h.push (Obj.mk (.type "tuple") none (.seq ws.toArray) #[])).get? z = some (Obj.mk (.type "zip") none (.fields #[.ellipsis, .bool b0, .bool false, .ref TI, .ref TO]) #[]) := Heap.get?_push_of_some _ iz
      refine wpAny_bind (wpAny_setField_rec iz2 (by simp) fun h3 z3 sb3 => ?_)
      refine wpAny_setField_rec z3 (by simp) fun h4 z4 sb4 => ?_
      refine wpAny_pure ⟨_, rfl, ?_⟩
      have zlt : z < h.objs.size := Heap.lt_size iz
      have old : ∀ c o, c ≠ z → h.get? c = some o → h4.get? c = some o := fun c o hc e => same_get sb4 hc (same_get sb3 hc (Heap.get?_push_of_some _ e))
      refine hQ h4 h.objs.size ⟨⟨rawInt h.objs.size, false, .inr ⟨_, rfl⟩, z4⟩, old _ _ D.zTI iti, ⟨ws, hws, old _ _ D.zTO ito⟩, its_keep (its_end D ii) fun im him o e => old im o (fun q => D.zi (q ▸ him)) e⟩ ?_ (Nat.le_of_eq hsz.symm) fun c o hc e => old c o (fun q => hc (by rw [q]; exact List.mem_cons_self)) (kp c o hc e)
      have hT : (h.push (Obj.mk (.type "tuple") none (.seq ws.toArray) #[])).get? h.objs.size = some (Obj.mk (.type "tuple") none (.seq ws.toArray) #[]) := Heap.get?_push_size _ rfl
      exact same_get sb4 (Nat.ne_of_gt zlt) (same_get sb3 (Nat.ne_of_gt zlt) hT)
  · -- a new one
    simp only [Bool.false_eq_true, if_false]
    refine wpAny_bind ?_
    rw [← Array.forIn_toList]
    refine forIn_walk (fun j b s' => b.1 = none ∧ b.2.toList = vs.take j ∧ ∃ h, s' = { s with heap := h } ∧ ZipObj h z TI TO f0 true ∧ TupObj h TI (its.map Value.ref) ∧ TupObj h TO w0 ∧ ItsAt h its ls (upTo k j) ∧ Kept (z :: TI :: TO :: its) s.heap h ∧ h.objs.size = s.heap.objs.size) ?_ ?_ ?_
    · rintro j itv ⟨b1, acc⟩ s' hj ⟨e1, hacc, h, rfl, iz, iti, ito, ii, kp, hsz⟩
      have e1' : b1 = none := e1
      subst e1'
      obtain ⟨it, hit, rfl⟩ : ∃ it, its[j]? = some it ∧ itv = Value.ref it := by
        simp only [List.getElem?_map] at hj
        cases e : its[j]? with
        | none =>
          rw [e] at hj
          cases hj
        | some it =>
          rw [e] at hj
          cases hj
          exact ⟨it, rfl, rfl⟩
      obtain ⟨l, hl⟩ := lsi hit
      obtain ⟨xs, hxs, v, hxk, hvj⟩ := N j l hl
      have itn : it ∈ its := List.mem_of_getElem? hit
      have t0 : h.IsTupleIter it l k := by
        have q := ii j it l hit hl
        have e : upTo k j j = k := if_neg (Nat.lt_irrefl j)
        rw [e] at q
        exact q
      refine wpAny_bind (wpAny_holding ?_)
      show wpAny _ _ (Builtin.SmallTypes.nextOf (.ref it) >>= _) _ _ _
      refine wpAny_bind (RZ.nextOf_tuple_item (s := { s with heap := h }) t0 (tuple_keep hxs kp (lno hl)) hxk fun h2 t2 sb2 => wpAny_pure ?_)
      refine wpAny_pure ⟨_, rfl, rfl, ?_, h2, rfl, same_get sb2 (fun e => D.zi (e ▸ itn)) iz, same_get sb2 (fun e => D.TIi (e ▸ itn)) iti, same_get sb2 (fun e => D.TOi (e ▸ itn)) ito, its_next D ii hit hl t2 sb2, ?_, ?_⟩
      · show (acc.push v).toList = vs.take (j + 1)
        have hacc' : acc.toList = vs.take j := hacc
        rw [Array.toList_push, hacc', List.take_add_one, hvj]
        rfl
      · intro c o hc e
        have c1 : c ≠ it := fun q => hc (by rw [q]; exact List.mem_cons_of_mem _ (List.mem_cons_of_mem _ (List.mem_cons_of_mem _ itn)))
        exact same_get sb2 c1 (kp c o hc e)
      · show h2.objs.size = _
        rw [sb2.1, hsz]
    · refine ⟨rfl, rfl, h₁, rfl, hz₁, same_get hs₁ D.zTI hti, same_get hs₁ D.zTO hto0, its_start (its_keep Z.at_ fun im him o e => same_get hs₁ (fun q => D.zi (q ▸ him)) e), fun c o hc e => same_get hs₁ (fun q => hc (by rw [q]; exact List.mem_cons_self)) e, hs₁.1⟩
    · rintro ⟨b1, acc⟩ s' ⟨e1, hacc, h, rfl, iz, iti, ito, ii, kp, hsz⟩
      have e1' : b1 = none := e1
      subst e1'
      have hl2 : (List.map Value.ref its).toArray.toList.length = its.length := by simp
      rw [hl2] at hacc ii
      have ea : acc.toList = vs := by
        have hacc' : acc.toList = vs.take its.length := hacc
        rw [hacc', List.take_of_length_le (by omega)]
      show wpAny _ _ (newTuple acc.toList >>= _) _ _ _
      rw [ea]
      refine wpAny_bind (wpAny_newTuple ?_ (by rw [sizeLine_eq]; omega))
      refine wpAny_pure ⟨_, rfl, ?_⟩
      have old : ∀ c o, h.get? c = some o → (h.push (Obj.mk (.type "tuple") none (.seq vs.toArray) #[])).get? c = some o := fun c o e => Heap.get?_push_of_some _ e
      exact hQ _ h.objs.size ⟨⟨f0, true, hf, old _ _ iz⟩, old _ _ iti, ⟨w0, hw0, old _ _ ito⟩, its_keep (its_end D ii) fun im him o e => old im o e⟩ (Heap.get?_push_size _ rfl) (Nat.le_of_eq hsz.symm) fun c o hc e => old c o (kp c o hc e)
end
end Dz

/-! part Zn2 -/
namespace Dz
open PySem PySem.Spec PyProof.Rows L2
section
variable {prog : Program} {w : World} {A : Around} {E : Value → Shared → Prop} {s : Shared} {z TI TO : Addr} {its ls : List Addr} {k : Nat} {vs : List Value}
/-- the first tuple has ended -/
theorem zipN_end (hh : A.handled = none) (D : Apart z TI TO its ls) (Z : ZipN s.heap z TI TO its ls k) {i1 l1 : Addr} {xs : Array Value} (hi : its[0]? = some i1) (hl : ls[0]? = some l1) (hx : s.heap.IsTuple l1 xs) (hk : xs[k]? = none) {Q : Fin → Shared → Prop}
    (hE : ∀ h' e, Kept (z :: TI :: TO :: its) s.heap h' → (∃ o, h'.get? e = some o ∧ o.cls = .type "StopIteration") → E (.ref e) { s with heap := h' }) : wpAny (model prog w) A (Builtin.«zip.__next__» ⟨[.ref z], []⟩) Q E s := by
  obtain ⟨f0, b0, hf, hz⟩ := Z.zo
  have hz' : s.heap.get? z = some (Obj.mk (.type "zip") none (.fields #[f0, .bool b0, .bool false, .ref TI, .ref TO]) #[]) := hz
  have hti : s.heap.get? TI = some (Obj.mk (.type "tuple") none (.seq (its.map Value.ref).toArray) #[]) := Z.ti
  obtain ⟨i0, r, rfl⟩ : ∃ i0 r, its = i0 :: r := by
    cases its with
    | nil => simp at hi
    | cons a r => exact ⟨a, r, rfl⟩
  have e1 : i0 = i1 := Option.some.inj hi
  subst e1
  have t0 : s.heap.IsTupleIter i0 l1 k := Z.at_ 0 i0 l1 rfl hl
  have lm := List.mem_of_getElem? hl
  have l1z : l1 ≠ z := fun e => D.lz (e ▸ lm)
  have i0z : i0 ≠ z := fun e => D.zi (e ▸ List.mem_cons_self)
  have fin : ∀ {h₁ h₂ : Heap}, Kept (z :: TI :: TO :: i0 :: r) s.heap h₁ → Heap.ExtBut i0 h₁ h₂ → Kept (z :: TI :: TO :: i0 :: r) s.heap h₂ := fun {h₁ h₂} k1 k2 c o hc e => k2 c o (fun q => hc (by rw [q]; simp)) (k1 c o hc e)
  show wpAny _ _ (field (.ref z) 2 >>= _) _ _ _
  refine wpAny_bind (wpAny_field hz' rfl (x := .bool false) rfl ?_)
  show wpAny _ _ (field (.ref z) 3 >>= _) _ _ _
  refine wpAny_bind (wpAny_field hz' rfl (x := .ref TI) rfl ?_)
  refine wpAny_bind (wpAny_seqItems hti rfl ?_)
  have hemp : ((i0 :: r).map Value.ref).toArray.isEmpty = false := rfl
  simp only [hemp, Bool.false_eq_true, if_false]
  show wpAny _ _ (Builtin.SmallTypes.ownedTupleIsFree (.ref z) >>= _) _ _ _
  refine wpAny_bind (own_free hf hz ?_ fun h₁ hz₁ hs₁ => ?_)
  · simp only [if_true]
    refine wpAny_bind (wpAny_rule ?_)
    refine wpAny_bind (wpAny_field hz' rfl (x := .ref TO) rfl ?_)
    refine wpAny_bind (wpAny_setField_rec hz' (by simp) fun h₁ hz₁ hs₁ => ?_)
    refine wpAny_bind ?_
    simp only [List.map_cons, List.zipIdx_cons, List.forIn_cons]
    refine wpAny_bind (wpAny_bind (wpAny_onRaise ?_))
    show wpAny _ _ (Builtin.SmallTypes.nextOf (.ref i0) >>= _) _ _ _
    refine wpAny_bind (RZ.nextOf_tuple_end (s := { s with heap := h₁ }) hh (iter_same t0 hs₁ i0z) (by
      obtain ⟨o, e, q⟩ := hx
      exact ⟨o, same_get hs₁ l1z e, q⟩) hk fun h₂ e hs₂ he => ?_)
    have k1 : Kept (z :: TI :: TO :: i0 :: r) s.heap h₁ := fun c o hc e => same_get hs₁ (fun q => hc (by rw [q]; exact List.mem_cons_self)) e
    have hz₂ : h₂.get? z = some _ := hs₂ _ _ i0z.symm hz₁
    refine wpAny_setField_rec hz₂ (by simp) fun h₃ hz₃ hs₃ => ?_
    obtain ⟨o, ho, hc⟩ := he
    have ez : e ≠ z := fun q => by
      rw [q, hz₂] at ho
      have ho' := Option.some.inj ho
      rw [← ho'] at hc
      injection hc with hc
      exact absurd hc (by decide)
    refine hE h₃ e (fun c o hc q => same_get hs₃ (fun q' => hc (by rw [q']; exact List.mem_cons_self)) (fin k1 hs₂ c o hc q)) ⟨o, same_get hs₃ ez ho, hc⟩
  · simp only [Bool.false_eq_true, if_false]
    refine wpAny_bind ?_
    rw [← Array.forIn_toList]
    simp only [List.map_cons, List.forIn_cons]
    refine wpAny_bind (wpAny_bind (wpAny_holding ?_))
    show wpAny _ _ (Builtin.SmallTypes.nextOf (.ref i0) >>= _) _ _ _
    refine wpAny_bind (RZ.nextOf_tuple_end (s := { s with heap := h₁ }) hh (iter_same t0 hs₁ i0z) (by
      obtain ⟨o, e, q⟩ := hx
      exact ⟨o, same_get hs₁ l1z e, q⟩) hk fun h₂ e hs₂ he => ?_)
    have k1 : Kept (z :: TI :: TO :: i0 :: r) s.heap h₁ := fun c o hc e => same_get hs₁ (fun q => hc (by rw [q]; exact List.mem_cons_self)) e
    exact hE h₂ e (fin k1 hs₂) he
theorem next_zipN_item (D : Apart z TI TO its ls) (hne : its ≠ []) (hlen : its.length ≤ 1000) (Z : ZipN s.heap z TI TO its ls k) (hv : vs.length = its.length) (N : Now s.heap its ls k vs) {Q : Option Value → Shared → Prop}
    (hQ : ∀ (h' : Heap) (T : Addr), ZipN h' z TI TO its ls (k + 1) → TupObj h' T vs → s.heap.objs.size ≤ T → Kept (z :: TI :: TO :: its) s.heap h' → Q (some (.ref T)) { s with heap := h' }) : wpAny (model prog w) A (pyNext (.ref z)) Q E s := by
  obtain ⟨f0, b0, hf, hz⟩ := Z.zo
  have hT : s.TypeIs (.ref z) "zip" := ⟨_, hz, rfl⟩
  unfold pyNext
  exact wpAny_bind (wpAny_attempt (wpAny_callSpecial?_slot (name := Str.ofString "__next__") hT F.slot_zip_next (wpAny_call_entry F.slot_zip_next hT F.entry_zip_next (zipN_next D hne hlen Z hv N fun h' T a b c d => wpAny_pure (hQ h' T a b c d)) (F.args_zip_next_1 _))))
theorem next_zipN_end (hh : A.handled = none) (D : Apart z TI TO its ls) (Z : ZipN s.heap z TI TO its ls k) {i1 l1 : Addr} {xs : Array Value} (hi : its[0]? = some i1) (hl : ls[0]? = some l1) (hx : s.heap.IsTuple l1 xs) (hk : xs[k]? = none) {Q : Option Value → Shared → Prop}
    (hQ : ∀ h', Kept (z :: TI :: TO :: its) s.heap h' → Q none { s with heap := h' }) : wpAny (model prog w) A (pyNext (.ref z)) Q E s := by
  obtain ⟨f0, b0, hf, hz⟩ := Z.zo
  have hT : s.TypeIs (.ref z) "zip" := ⟨_, hz, rfl⟩
  unfold pyNext
  refine wpAny_bind (wpAny_attempt (wpAny_callSpecial?_slot (name := Str.ofString "__next__") hT F.slot_zip_next (wpAny_call_entry F.slot_zip_next hT F.entry_zip_next (zipN_end (A := A.in1) hh D Z hi hl hx hk fun h' e hk he => ?_) (F.args_zip_next_1 _))))
  obtain ⟨o, ho, hc⟩ := he
  exact wpAny_bind (wpAny_isInstance (T := "StopIteration") (b := true) ⟨o, ho, hc⟩ isSubtype_stop (wpAny_pure (hQ _ hk)))
end
/-- the items at one place of the tuples ls, in a new tuple -/
def ItN (K : PySem.W.Frag) (ls : List Addr) : It :=
  ⟨fun i H => ∃ vs : List V, vs.length = ls.length ∧ ∀ (j : Nat) (l : Addr), ls[j]? = some l → ∃ xs v, SqT K H l xs ∧ xs[i]? = some v ∧ vs[j]? = some v,
    fun i H x H' => ∃ T vs, x = .ref T ∧ H T = none ∧ H' = upd H T (.tup vs) ∧ vs.length = ls.length ∧ ∀ (j : Nat) (l : Addr), ls[j]? = some l → ∀ xs, SqT K H l xs → xs[i]? = vs[j]?,
    fun i H => ∃ l xs, ls[0]? = some l ∧ SqT K H l xs ∧ xs.length ≤ i⟩
theorem turn_zipN {P : Program} {w : World} {K : PySem.W.Frag} {tg : Expr} {z TI TO : Addr} {its ls : List Addr} (D : Apart z TI TO its ls) (hne : its ≠ []) (hlen : its.length ≤ 1000) (htg : ∀ u, letOwnedTupleGo tg (.ref z) u = pure ()) :
    Turn P w K tg (ItN K ls) (z :: TI :: TO :: its) z (fun i h => ZipN h z TI TO its ls i) where
  mem := List.mem_cons_self
  obj := fun i h Z b hb => by
    obtain ⟨f0, b0, hf, hz⟩ := Z.zo
    obtain ⟨w0, _, hto⟩ := Z.to
    rcases List.mem_cons.mp hb with rfl | hb
    · exact ⟨_, hz, fun v q => nomatch q⟩
    · rcases List.mem_cons.mp hb with rfl | hb
      · exact ⟨_, Z.ti, fun v q => nomatch q⟩
      · rcases List.mem_cons.mp hb with rfl | hb
        · exact ⟨_, hto, fun v q => nomatch q⟩
        · obtain ⟨j, hj⟩ := List.mem_iff_getElem?.mp hb
          have hl : j < ls.length := by rw [← D.len]; exact (List.getElem?_eq_some_iff.mp hj).1
          obtain ⟨o, e, _, d⟩ := Z.at_ j b _ hj (List.getElem?_eq_getElem hl)
          exact ⟨o, e, fun v q => by rw [d] at q; cases q⟩
  keep := fun i h h' Z kp => by
    obtain ⟨f0, b0, hf, hz⟩ := Z.zo
    obtain ⟨w0, hw, hto⟩ := Z.to
    exact ⟨⟨f0, b0, hf, kp z List.mem_cons_self _ hz⟩, kp TI (by simp) _ Z.ti, ⟨w0, hw, kp TO (by simp) _ hto⟩, its_keep Z.at_ fun it hit o e => kp it (by simp [hit]) o e⟩
  item := by
    intro X hP hw hK hc i pins s σ H E I hf Z hg
    subst hP hw hK
    obtain ⟨vs, hvl, hv⟩ := hg
    -- the values at the place i, as the machine has them
    have vals : ∃ us : List Value, Vals vs us ∧ Now s.heap its ls i us := by
      have step : ∀ (ls' : List Addr) (vs' : List V), vs'.length = ls'.length → (∀ (j : Nat) (l : Addr), ls'[j]? = some l → ∃ xs v, SqT X.K H l xs ∧ xs[i]? = some v ∧ vs'[j]? = some v) → ∃ us : List Value, Vals vs' us ∧ Now s.heap its ls' i us := by
        intro ls'
        induction ls' with
        | nil =>
          intro vs' h0 _
          have e : vs' = [] := List.eq_nil_of_length_eq_zero h0
          subst e
          exact ⟨[], .nil, fun j l h => by simp at h⟩
        | cons l r ih =>
          intro vs' h0 h1
          cases vs' with
          | nil => simp at h0
          | cons v vr =>
            obtain ⟨us, r1, r2⟩ := ih vr (by simpa using h0) fun j m hm => by
              obtain ⟨xs, u, a, b, c⟩ := h1 (j + 1) m (by simpa using hm)
              exact ⟨xs, u, a, b, by simpa using c⟩
            obtain ⟨xs, v', a, b, c⟩ := h1 0 l rfl
            have ev : v = v' := Option.some.inj c
            subst ev
            obtain ⟨its2, rv, p, _⟩ := I.tuple a
            obtain ⟨u, hu, ru⟩ := rv.get b
            refine ⟨u :: us, .cons ru r1, fun j m hm => ?_⟩
            cases j with
            | zero =>
              cases hm
              exact ⟨its2.toArray, p, u, by simpa using hu, rfl⟩
            | succ j => exact r2 j m (by simpa using hm)
      exact step ls vs hvl hv
    obtain ⟨us, rv, N⟩ := vals
    have hul : us.length = its.length := by rw [← rv.length, hvl, D.len]
    refine next_zipN_item D hne hlen Z hul N fun h' T Z' hT hsz kp => ?_
    refine ⟨_, rfl, ?_⟩
    rw [htg]
    refine wpAny_pure ?_
    have new : ObjOk X.prog X.w (upd H T (.tup vs)) h' T (.tup vs) := ⟨by rw [hvl, ← D.len, sizeLine_eq]; omega, us, rv, ⟨_, hT, rfl, _, rfl⟩⟩
    have I1 : L2.Inv X pins σ (upd H T (.tup vs)) { s with heap := h' } := I.turnedNew (t' := s.toks) (ch := z :: TI :: TO :: its) (fun c o hb q => kp c o hb q) hf hsz new
    refine ⟨.ref T, _, I1, rfl, ⟨T, vs, rfl, I.hok.fresh hsz, rfl, hvl, fun j l hl xs hx => ?_⟩, Z', fun b hb => ?_⟩
    · obtain ⟨xs2, v, a, b, c⟩ := hv j l hl
      have e : xs = xs2 := I.tuple_inj hx a
      subst e
      rw [b, c]
    · have hlt : b < s.heap.objs.size := by
        obtain ⟨f0, b0, _, hz⟩ := Z.zo
        obtain ⟨w0, _, hto⟩ := Z.to
        rcases List.mem_cons.mp hb with rfl | hb
        · exact Heap.lt_size hz
        · rcases List.mem_cons.mp hb with rfl | hb
          · exact Heap.lt_size Z.ti
          · rcases List.mem_cons.mp hb with rfl | hb
            · exact Heap.lt_size hto
            · obtain ⟨j, hj⟩ := List.mem_iff_getElem?.mp hb
              have hl : j < ls.length := by rw [← D.len]; exact (List.getElem?_eq_some_iff.mp hj).1
              obtain ⟨o, e, _⟩ := Z.at_ j b _ hj (List.getElem?_eq_getElem hl)
              exact Heap.lt_size e
      rw [upd_ne (Nat.ne_of_lt (Nat.lt_of_lt_of_le hlt hsz))]
      exact (hf b hb).1
  done := by
    intro X hP hw hK hc i pins s σ H E I hf Z hg
    subst hP hw hK
    obtain ⟨l, xs, hl, hx, hle⟩ := hg
    obtain ⟨its2, rv, p, _⟩ := I.tuple hx
    have h0 : 0 < its.length := by
      cases its with
      | nil => exact absurd rfl hne
      | cons a r => exact Nat.succ_pos _
    have hl2 := rv.length
    exact next_zipN_end (I.ok.hd hc) D Z (List.getElem?_eq_getElem h0) hl p (by simp; omega) fun h' kp => ⟨rfl, I.turnedL (t' := s.toks) (ch := z :: TI :: TO :: its) (fun c o hb q => kp c o hb q) hf⟩
  self := fun A i s Q E Z h => by
    obtain ⟨f0, b0, _, hz⟩ := Z.zo
    have hT : s.TypeIs (.ref z) "zip" := ⟨_, hz, rfl⟩
    refine wpAny_pyIter_slot hT F.slot_zip_iter (wpAny_call_entry F.slot_zip_iter hT F.entry_zip_iter ?_ (F.args_zip_iter_1 _))
    show wpAny _ _ (ret (Value.ref z)) _ _ s
    exact wpAny_pure ⟨_, rfl, "zip", _, hT, F.slot_zip_next.lookup, h⟩

/-! zip made of any number of tuples -/
theorem typeCall_zipN (l : List Value) : checkTypeCall "zip" ⟨l, []⟩ = pure () := by kernel_rfl
theorem newCall_zipN : ∀ l : List Value, checkBuiltinCall "zip.__new__" ⟨.type "zip" :: l, []⟩ = pure ()
  | [] => by kernel_rfl
  | [_] => by kernel_rfl
  | _ :: _ :: _ => by kernel_rfl
theorem args_initN (a : Value) (l : List Value) : argsOk "object.__init__" ⟨a :: l, []⟩ := by unfold argsOk; kernel_rfl
end Dz

/-! part Zn3 -/
namespace Dz
open PySem PySem.Spec PyProof.Rows L2
section
variable {prog : Program} {w : World} {A : Around} {E : Value → Shared → Prop} {s : Shared}
theorem iterAll_tups {ls : List Addr} (ht : ∀ l ∈ ls, ∃ xs, s.heap.IsTuple l xs) {Q : List Value → Shared → Prop}
    (hQ : ∀ h' : Heap, h'.objs.size = s.heap.objs.size + ls.length → ItsAt h' ((List.range ls.length).map fun m => s.heap.objs.size + m) ls (fun _ => 0) → (∀ c o, s.heap.get? c = some o → h'.get? c = some o) → Q (((List.range ls.length).map fun m => s.heap.objs.size + m).map Value.ref) { s with heap := h' }) :
    wpAny (model prog w) A (Builtin.SmallTypes.iterAll (ls.map Value.ref)) Q E s := by
  unfold Builtin.SmallTypes.iterAll
  refine wpAny_bind (forIn_walk (fun j acc s' => ∃ h : Heap, s' = { s with heap := h } ∧ acc.toList = ((List.range j).map fun m => s.heap.objs.size + m).map Value.ref ∧ h.objs.size = s.heap.objs.size + j ∧
    (∀ m l, m < j → ls[m]? = some l → h.IsTupleIter (s.heap.objs.size + m) l 0) ∧ (∀ c o, s.heap.get? c = some o → h.get? c = some o)) ?_ ⟨s.heap, rfl, rfl, rfl, fun m l hm => absurd hm (Nat.not_lt_zero m), fun _ _ e => e⟩ ?_)
  · rintro j x acc s' hj ⟨h, rfl, ha, hsz, hit, kp⟩
    obtain ⟨l, hl, rfl⟩ : ∃ l, ls[j]? = some l ∧ x = Value.ref l := by
      rw [List.getElem?_map] at hj
      cases e : ls[j]? with
      | none =>
        rw [e] at hj
        cases hj
      | some l =>
        rw [e] at hj
        cases hj
        exact ⟨l, rfl, rfl⟩
    obtain ⟨xs, hx⟩ := ht l (List.mem_of_getElem? hl)
    have hx' : h.IsTuple l xs := by
      obtain ⟨o, e, q⟩ := hx
      exact ⟨o, kp _ _ e, q⟩
    refine wpAny_bind (wpAny_holding (wpAny_pyIter_tuple hx' ?_))
    refine wpAny_pure ⟨_, rfl, _, rfl, ?_, ?_, fun m l' hm hl' => ?_, fun c o e => Heap.get?_push_of_some _ (kp c o e)⟩
    · show (acc.push (Value.ref h.objs.size)).toList = _
      rw [Array.toList_push, ha, List.range_succ, List.map_append, List.map_append, hsz]
      rfl
    · show (h.push _).objs.size = _
      rw [Heap.size_push, hsz]
      rfl
    · by_cases e : m = j
      · subst e
        rw [hl] at hl'
        cases hl'
        have g : (h.push (Obj.mk (.type "tuple_iterator") none (.fields #[.ref l, .int 0 0]) #[])).get? h.objs.size = some _ := Heap.get?_push_size _ rfl
        rw [hsz] at g
        exact ⟨_, g, rfl, rfl⟩
      · exact (hit m l' (by omega) hl').at fun o e => Heap.get?_push_of_some _ e
  · rintro acc s' ⟨h, rfl, ha, hsz, hit, kp⟩
    rw [List.length_map] at ha hsz hit
    refine wpAny_pure ?_
    rw [ha]
    refine hQ h hsz (fun j it l h1 h2 => ?_) kp
    have hj : j < ls.length := (List.getElem?_eq_some_iff.mp h2).1
    rw [List.getElem?_map, List.getElem?_range hj] at h1
    cases h1
    exact hit j l hj h2
end
theorem nx (n k : Nat) (h : 0 < k) : n ≠ n + k := by omega
theorem nx2 (n : Nat) : n + 1 ≠ n + 2 := by omega
theorem nlt (n k : Nat) : ¬ n + k < n := by omega
theorem nold (n n' m k : Nat) (h : n' = n + m) : ¬ n' + k < n := by omega
theorem noldz (n n' m : Nat) (h : n' = n + m) : ¬ n' < n := by omega
theorem nge (n n' m k : Nat) (h : n' = n + m) : n ≤ n' + k := by omega
theorem meets_zip_newN (ls : List Addr) : Meets (Builtin.«zip.__new__» ⟨.type "zip" :: ls.map Value.ref, []⟩) (fun _ R s => (∀ l ∈ ls, ∃ xs, s.heap.IsTuple l xs) ∧ ls.length ≤ 1000 ∧
    ∀ (h' : Heap) (its : List Addr) (z TI TO : Addr), Apart z TI TO its ls → ZipN h' z TI TO its ls 0 → (∀ b ∈ z :: TI :: TO :: its, s.heap.objs.size ≤ b) → (∀ c o, s.heap.get? c = some o → h'.get? c = some o) → R (.ok (.ret (.ref z))) { s with heap := h' }) :=
  .of_wp fun prog w A R s h => by
    obtain ⟨hp, g, d, tk, os⟩ := s
    obtain ⟨ht, hlen, hR⟩ := h
    have hsub := sub_zip
    unfold Builtin.«zip.__new__»
    generalize hI : Builtin.SmallTypes.iterAll = IA
    wp_walk
    subst hI
    refine iterAll_tups (s := ⟨hp, g, d, tk, os⟩) ht fun h1 hsz hit kp => ?_
    have hsz : h1.objs.size = hp.objs.size + ls.length := hsz
    have kp : ∀ c o, hp.get? c = some o → h1.get? c = some o := kp
    have hit : ItsAt h1 ((List.range ls.length).map fun m => hp.objs.size + m) ls (fun _ => 0) := hit
    generalize hits : ((List.range ls.length).map fun m => hp.objs.size + m) = its at hit ⊢
    have hl : its.length = ls.length := by rw [← hits, List.length_map, List.length_range]
    have mem : ∀ b, b ∈ its → hp.objs.size ≤ b ∧ b < h1.objs.size := fun b hb => by
      rw [← hits] at hb
      obtain ⟨m, hm, rfl⟩ := List.mem_map.mp hb
      have := List.mem_range.mp hm
      omega
    have lold : ∀ l ∈ ls, l < hp.objs.size := fun l hl => by
      obtain ⟨xs, o, e, _⟩ := ht l hl
      exact Heap.lt_size e
    refine wpAny_bind (wpAny_newTuple ?_ (by rw [List.length_map, hl, sizeLine_eq]; omega))
    refine wpAny_bind (wpAny_newTuple ?_ (by rw [List.length_map, List.length_map, hl, sizeLine_eq]; omega))
    refine wpAny_bind ?_
    unfold Builtin.SmallTypes.newRecord
    dsimp only
    refine wpAny_newObj_type ?_ (by unfold Builtin.SmallTypes.ownedTupleFields; size_fits)
    refine wpAny_pure ⟨_, rfl, ?_⟩
    have s1 : (h1.push (Obj.mk (.type "tuple") none (.seq (its.map Value.ref).toArray) #[])).objs.size = h1.objs.size + 1 := Heap.size_push ..
    have s2 : ((h1.push (Obj.mk (.type "tuple") none (.seq (its.map Value.ref).toArray) #[])).push (Obj.mk (.type "tuple") none (.seq ((its.map Value.ref).map fun _ => Value.none).toArray) #[])).objs.size = h1.objs.size + 2 := by rw [Heap.size_push, s1]
    have up1 : ∀ (o : Obj) (h : Heap) (c : Addr) (u : Obj), h.get? c = some u → (h.push o).get? c = some u := fun o h c u e => Heap.get?_push_of_some _ e
    refine hR _ its _ h1.objs.size (h1.push (Obj.mk (.type "tuple") none (.seq (its.map Value.ref).toArray) #[])).objs.size ⟨hl, ?_, ?_, ?_, ?_, ?_, ?_, ?_, ?_, ?_, ?_, ?_⟩ ⟨⟨.none, false, .inl rfl, Heap.get?_push_size _ rfl⟩, up1 _ _ _ _ (up1 _ _ _ _ (Heap.get?_push_size _ rfl)), ⟨(its.map Value.ref).map fun _ => Value.none, by rw [List.length_map, List.length_map], up1 _ _ _ _ (Heap.get?_push_size _ rfl)⟩, ?_⟩ ?_ ?_
    · rw [← hits]
      exact List.pairwise_map.mpr (List.Pairwise.imp (fun h e => h (Nat.add_left_cancel e)) List.nodup_range)
    · rw [s2]; exact nx _ 2 (by decide)
    · rw [s1, s2]; exact nx2 _
    · rw [s1]; exact nx _ 1 (by decide)
    · intro q
      have r := (mem _ q).2
      rw [s2] at r
      exact nlt _ 2 r
    · intro q
      exact Nat.lt_irrefl _ (mem _ q).2
    · intro q
      have r := (mem _ q).2
      rw [s1] at r
      exact nlt _ 1 r
    · intro q
      have r := lold _ q
      rw [s2] at r
      exact nold _ _ _ 2 hsz r
    · intro q
      exact noldz _ _ _ hsz (lold _ q)
    · intro q
      have r := lold _ q
      rw [s1] at r
      exact nold _ _ _ 1 hsz r
    · intro i hi q
      exact Nat.lt_irrefl _ (Nat.lt_of_lt_of_le (lold _ q) (mem _ hi).1)
    · exact its_keep hit fun it _ o e => up1 _ _ _ _ (up1 _ _ _ _ (up1 _ _ _ _ e))
    · intro b hb
      show hp.objs.size ≤ b
      rcases List.mem_cons.mp hb with rfl | hb
      · rw [s2]; exact nge _ _ _ 2 hsz
      · rcases List.mem_cons.mp hb with rfl | hb
        · exact nge _ _ _ 0 hsz
        · rcases List.mem_cons.mp hb with rfl | hb
          · rw [s1]; exact nge _ _ _ 1 hsz
          · exact (mem _ hb).1
    · exact fun c o e => up1 _ _ _ _ (up1 _ _ _ _ (up1 _ _ _ _ (kp c o e)))
section
variable {prog : Program} {w : World} {A : Around} {E : Value → Shared → Prop} {s : Shared}
theorem call_zipN {ls : List Addr} (ht : ∀ l ∈ ls, ∃ xs, s.heap.IsTuple l xs) (hlen : ls.length ≤ 1000) {Q : Value → Shared → Prop}
    (hQ : ∀ (h' : Heap) (its : List Addr) (z TI TO : Addr), Apart z TI TO its ls → ZipN h' z TI TO its ls 0 → (∀ b ∈ z :: TI :: TO :: its, s.heap.objs.size ≤ b) → (∀ c o, s.heap.get? c = some o → h'.get? c = some o) → Q (.ref z) { s with heap := h' }) :
    wpAny (model prog w) A (call (.type "zip") (ls.map Value.ref)) Q E s :=
  callType_new F.called_zip (by decide) (typeCall_zipN _) (newCall_zipN _) (fun obj => args_initN obj _) F.entry_zip_new (meets_zip_newN ls) ⟨ht, hlen, fun h' its z TI TO D Z hb kp => by
    obtain ⟨f0, b0, _, hz⟩ := id Z.zo
    exact ⟨⟨_, hz, rfl⟩, hQ h' its z TI TO D Z hb kp⟩⟩
/-- a built-in class called with starred arguments -/
theorem callWith_typeS {M : Model} {E : Value → Shared → Prop} {pos : Pos} {T : String} {args : List (Bool × Sem Value)} {Q : Value → Shared → Prop} (hst : args.any (·.1) = true)
    (h : wpAny M A (evalArgs (.type T) true args []) (fun a s₁ => wpAny M A (call (.type T) a.pos a.kw) Q E s₁) E s) : wpAny M A (callWith pos (.type T) [] args []) Q E s := by
  unfold callWith
  refine wpAny_bind (wpAny_holding (wpAny_mono h (fun a s₁ h₁ => wpAny_bind (wpAny_standAt ?_)) fun _ _ x => x))
  simp only [hst, Bool.true_or]
  refine wpAny_bind (wpAny_pure ?_)
  exact wpAny_bind (wpAny_mono (wpAny_operating h₁) (fun r s₂ hr => wpAny_bind (wpAny_holding (wpAny_point (wpAny_pure hr)))) fun _ _ x => x)
end
/-- for x in zip(STAR ts), ts a list or tuple of tuples -/
def iZipS (K : PySem.W.Frag) (te : TE) : TI := fun σ H Z => te σ H fun x H1 => ∃ (a : Addr) (ls : List Addr), x = .ref a ∧ (SqT K H1 a (ls.map V.ref) ∨ SqL K H1 a (ls.map V.ref)) ∧ ls ≠ [] ∧ ls.length ≤ 1000 ∧ (∀ l ∈ ls, ∃ xs, SqT K H1 l xs) ∧ Z (ItN K ls) H1
theorem vals_refs : ∀ {ls : List Addr} {us : List Value}, Vals (ls.map V.ref) us → us = ls.map Value.ref
  | [], _, .nil => rfl
  | l :: ls, _, .cons r t => by
    have e := vals_refs t
    have r' : _ = Value.ref l := r
    rw [r', e]
    rfl
theorem pi_zipS {X : Cx} {e tg : Expr} {te : TE} {p sp pos : Pos} (hg : Gl X "zip") (hm : X.mg "zip" = none) (he : PE X e te) (htg : ∀ z u, letOwnedTupleGo tg (.ref z) u = pure ()) (hst : starEach [.Starred e sp] X.env = [(true, eval e X.env)] := by rfl) : PI X tg (.Call (.Name "zip" p) [.Starred e sp] [] pos) (iZipS X.K te) := by
  refine ⟨fun pins s σ H Z I h => ?_⟩
  refine Call_ (ld_blt I hg hm PyProof.Rows.boot_zip ?_)
  rw [hst]
  refine callWith_typeS rfl ?_
  refine PySem.W.ks_lone (thn (he.run pins s σ H _ I h) fun v s1 hx => ?_)
  obtain ⟨x, H1, I1, rx, a, ls, rfl, hq, hne, hlen, ht, hZ⟩ := hx
  have rx' : v = Value.ref a := rx
  subst rx'
  refine StX.star_any I1 hq fun us s2 I2 rv => ?_
  have ev := vals_refs rv
  subst ev
  refine call_zipN (fun l hl => by
    obtain ⟨xs, hx⟩ := ht l hl
    obtain ⟨its, _, p, _⟩ := I2.tuple hx
    exact ⟨_, p⟩) hlen fun h' its z TI TO D Zn hb kp => ?_
  have I3 : L2.Inv X pins σ H1 { s2 with heap := h' } := I2.kept (t' := s2.toks) kp
  have hin : its ≠ [] := fun e => hne (List.eq_nil_of_length_eq_zero (by rw [← D.len, e]; rfl))
  have T := turn_zipN (P := X.prog) (w := X.w) (K := X.K) (tg := tg) D hin (by rw [D.len]; exact hlen) (htg z)
  exact T.self X.A 0 { s2 with heap := h' } _ _ Zn ⟨z, _, _, _, H1, rfl, I3, T, Zn, fun b hb' => I2.fpOk (hb b hb') (I2.hok.fresh (hb b hb')), hZ⟩
end Dz

/-! part St1 -/
namespace Dz
open PySem PySem.Spec PyProof.Rows L2
section
variable {P : Program} {w : World} {A : Around} {E : Value → Shared → Prop} {s : Shared}
/-- the empty set as it is made -/
abbrev set0 (w : World) : Obj := Obj.mk (.type "set") none (.set #[] 0 (.fresh 0 0 (!w.params.followText "set-order"))) #[]
abbrev liter (l : Addr) : Obj := Obj.mk (.type "list_iterator") none (.fields #[.ref l, .int 0 0]) #[]
/-- what set(l) leaves -/
abbrev SetMade (w : World) (s : Shared) (ns : List Int) (s₂ : Shared) : Prop := ∃ h' tk c, s₂ = { s with heap := h', toks := tk } ∧ SetR w h' s.heap.objs.size (fun j => decide (j ∈ ns)) c ∧ c ≤ ns.length ∧ ∀ b o, s.heap.get? b = some o → h'.get? b = some o
theorem set_of_list {l : Addr} {items : Array Value} (ns : List Int) {Q : Value → Shared → Prop} (hh : A.handled = none) (hl : s.heap.IsList l items) (hi : IntsAre items.toList ns) (hb : ns.length + 1 < scanBound)
    (hQ : ∀ s₂, SetMade w s ns s₂ → Q (.ref s.heap.objs.size) s₂) : wpAny (model P w) A (call (.type "set") [.ref l]) Q E s := by
  have hz : items.size = ns.length := by rw [← Array.length_toList]; exact IntsAre.length hi
  obtain ⟨c, tl, hmro⟩ := F.called_set.mro
  have f1 := F.called_set.made
  have f2 := F.called_set.sub
  have f3 := F.called_set.notType
  have f4 := F.called_set.canCreate
  have f5 := F.typeCall_set_1 (.ref l)
  refine wpAny_call (codeAny_of_tree (show wpAny _ _ (callAny (.type "set") _) _ _ _ from wpAny_pure ⟨Code.quiet_builtin _ (by decide +kernel), codeAny_builtin F.entry_type_call ?_⟩))
  rw [Around.under_plain (weight_type_call_type "set" [.ref l] []) rfl]
  repeat (any_goals (first | assumption | wp_step))
  refine codeAny_mono (code_set_led1 (.ref l) (E := E) (Q₁ := fun obj s₁ => obj = .ref s.heap.objs.size ∧ s₁ = { s with heap := s.heap.push (set0 w) }) ⟨rfl, rfl⟩) fun r s₁ hr => ?_
  match r, hr with
  | .error e, hr => exact hr
  | .ok (.next), hr => exact hr.elim
  | .ok (.brk), hr => exact hr.elim
  | .ok (.cont), hr => exact hr.elim
  | .ok (.ret obj), hr =>
    obtain ⟨rfl, rfl⟩ := hr
    have g0 : (s.heap.push (set0 w)).get? s.heap.objs.size = some (set0 w) := Heap.get?_push_size _ rfl
    have ty : Shared.TypeIs { s with heap := s.heap.push (set0 w) } (.ref s.heap.objs.size) "set" := ⟨_, g0, rfl⟩
    have f6 := F.called_set.init.lookup
    have f7 := F.called_set.init.bind (.ref s.heap.objs.size)
    repeat (any_goals (first | assumption | wp_step))
    refine codeAny_mono (codeAny_call_builtin (R := wants (fun r s₂ => r = .none ∧ SetMade w s ns s₂) E) F.called_set.init.plain F.entry_set_init (check_set_init_1 ty ?_)) fun r₂ s₂ hr₂ => ?_
    · obtain ⟨ol, hol, hcl, nl, hdl⟩ := hl
      obtain ⟨ocls, odict, odata, oslots⟩ := ol
      simp only at hcl hdl
      subst hcl
      subst hdl
      have g1 : (s.heap.push (set0 w)).get? l = some (Obj.mk (.type "list") odict (.seq items nl) oslots) := Heap.get?_push_of_some _ hol
      have f8 := F.sub_list_set
      have f9 := F.sub_list_frozenset
      have f10 : (Value.type "list" == Value.type "dict") = false := by decide
      have L1 : (s.heap.push (set0 w)).IsList l items := ⟨_, g1, rfl, nl, rfl⟩
      unfold Builtin.«set.__init__» noKeywords Builtin.Frozenset.updateFrom
      generalize hPI : pyIter = PI
      wp_walk
      subst hPI
      refine wpAny_pyIter_list L1 (wpAny_bind (wpAny_runValue ?_))
      have hlS : l < s.heap.objs.size := Heap.lt_size hol
      have h3 : A.in1.in1.in1.handled = none := by simp [hh]
      have z1 : (s.heap.push (set0 w)).objs.size = s.heap.objs.size + 1 := Heap.size_push ..
      have ne1 : l ≠ (s.heap.push (set0 w)).objs.size := by
        rw [z1]
        exact Nat.ne_of_lt (Nat.lt_succ_of_lt hlS)
      have nin : s.heap.objs.size ∉ [(s.heap.push (set0 w)).objs.size, l] := fun q => by
        rcases List.mem_cons.mp q with q | q
        · rw [z1] at q
          exact absurd q (Nat.ne_of_lt (Nat.lt_succ_self _))
        · exact absurd (List.mem_singleton.mp q) (Nat.ne_of_gt hlS)
      have val : ∀ (i : Nat) (v : Value), items[i]? = some v → ∃ k t, ns[i]? = some k ∧ v = .int k t := fun i v hv => by
        have hlt : i < ns.length := hz ▸ (Array.getElem?_eq_some_iff.mp hv).1
        obtain ⟨t, e⟩ := PyProof.Rows.IntsAre.int_at hi i v (by rw [Array.getElem?_toList]; exact hv)
        exact ⟨ns[i], t, List.getElem?_eq_getElem hlt, by rw [e, List.getD_eq_getElem?_getD, List.getElem?_eq_getElem hlt]; rfl⟩
      have g2 : ((s.heap.push (set0 w)).push (liter l)).get? s.heap.objs.size = some (set0 w) := Heap.get?_push_of_some _ g0
      have L2' : ((s.heap.push (set0 w)).push (liter l)).IsList l items := L1.push _
      refine set_update_ints ((Walks.list h3 _ l ne1 items).toS) s.heap.objs.size nin ns hz hb val (items.size - 0) 0 _ (by omega) (Nat.zero_le _) ⟨⟨_, Heap.get?_push_size _ rfl, rfl, rfl⟩, L2'⟩ ⟨0, Nat.le_refl 0, setR_new_at g2⟩ ?_
      intro s' c' hm hc' hS'
      obtain ⟨h', g', d', tk', os'⟩ := s'
      have e1 : g' = s.gens := hm.gens
      have e2 : d' = s.drawn := hm.drawn
      have e3 : os' = s.os := hm.os
      subst e1
      subst e2
      subst e3
      refine (wpAny_pure (show _ from ?_) : wpAny _ _ (pure _) _ _ _)
      refine (wpAny_pure ?_ : wpAny _ _ (ret Value.none) _ _ _)
      rw [hz] at hc'
      refine ⟨rfl, h', tk', c', rfl, hS', hc', fun b o e => ?_⟩
      have b0 : b < s.heap.objs.size := Heap.lt_size e
      refine hm.heap b o (fun q => ?_) (Heap.get?_push_of_some _ (Heap.get?_push_of_some _ e))
      rcases List.mem_cons.mp q with q | q
      · exact absurd q (Nat.ne_of_lt b0)
      · have q := List.mem_singleton.mp q
        rw [z1] at q
        exact absurd q (Nat.ne_of_lt (Nat.lt_succ_of_lt b0))
    · match r₂, hr₂ with
      | .error e, hr₂ => exact hr₂
      | .ok (.next), hr₂ => exact hr₂.elim
      | .ok (.brk), hr₂ => exact hr₂.elim
      | .ok (.cont), hr₂ => exact hr₂.elim
      | .ok (.ret r), hr₂ =>
        obtain ⟨rfl, h', tk, c', rfl, a1, a2, a3⟩ := hr₂
        repeat (any_goals (first | assumption | wp_step))
        exact hQ _ ⟨h', tk, c', rfl, a1, a2, a3⟩
end
end Dz

/-! part Ly6 -/
namespace Dy
open PySem PySem.Spec PyProof.Rows L2

section
variable {X : Cx} {a b c e : Expr} {es : List Expr} {δ δ1 δ2 δ3 : List Sl} {d d1 d2 : D} {ds : List D} {p pos : Pos} {k n : Nat} {x y : Str}
/-! powers, floor division -/
def CPowW (i j : Int) : Prop := 0 ≤ j ∧ (Builtin.Int.intBits i : Int) * j ≤ 2 ^ 27
theorem op_powW : OpR X (binaryOp .Pow) (rI CPowW fun i j => .int (i ^ j.toNat)) := opI fun _ _ _ _ _ _ _ hc q => pow_int hc.1 hc.2 q
theorem de_pow {m n : Int} (hc : CPowW m n) (ha : DE X a δ (.int m) δ1) (hb : DE X b δ1 (.int n) δ2) : DE X (.BinOp a .Pow b pos) δ (.int (m ^ n.toNat)) δ2 := de_bi (g := fun i j => i ^ j.toNat) op_powW hc ha hb
theorem de_fdiv {m n : Int} (hc : CDivW m n) (ha : DE X a δ (.int m) δ1) (hb : DE X b δ1 (.int n) δ2) : DE X (.BinOp a .FloorDiv b pos) δ (.int (m / n)) δ2 := de_bi (g := fun i j => i / j) op_fdivW hc ha hb
/-! len -/
theorem de_lenL (hm : X.mg "len" = none) (h : DE X a δ (.lst ds) δ1) (hg : Gl X "len" := by rfl) (he : starEach [a] X.env = (false, eval a X.env) :: starEach [] X.env := by exact st_any rfl) (hpl : (backTo pos (starEach [] X.env)).any (·.1) = false := by rfl) :
    DE X (.Call (.Name "len" p) [a] [] pos) δ (.int (ds.length : Int)) δ1 :=
  de_b1 call_len_seq hm PySem.boot_len h (fun v H Q R e iv kz => by
    cases iv with
    | lst q ia => exact ⟨_, _, rfl, .inl (SqL.of (e _ _ q)), kz _ fun _ => by rw [ia.len]; exact .int _⟩) hg (by decide) (by decide) he hpl
theorem de_lenR (hm : X.mg "len" = none) (h : DE X a δ (.rol ds) δ1) (hg : Gl X "len" := by rfl) (he : starEach [a] X.env = (false, eval a X.env) :: starEach [] X.env := by exact st_any rfl) (hpl : (backTo pos (starEach [] X.env)).any (·.1) = false := by rfl) :
    DE X (.Call (.Name "len" p) [a] [] pos) δ (.int (ds.length : Int)) δ1 :=
  de_b1 call_len_seq hm PySem.boot_len h (fun v H Q R e iv kz => by
    cases iv with
    | rol q ia => exact ⟨_, _, rfl, .inl (same_sqL e q), kz _ fun _ => by rw [ia.len]; exact .int _⟩) hg (by decide) (by decide) he hpl
theorem de_lenT (hm : X.mg "len" = none) (h : DE X a δ (.tup ds) δ1) (hg : Gl X "len" := by rfl) (he : starEach [a] X.env = (false, eval a X.env) :: starEach [] X.env := by exact st_any rfl) (hpl : (backTo pos (starEach [] X.env)).any (·.1) = false := by rfl) :
    DE X (.Call (.Name "len" p) [a] [] pos) δ (.int (ds.length : Int)) δ1 :=
  de_b1 call_len_seq hm PySem.boot_len h (fun v H Q R e iv kz => by
    cases iv with
    | tup q ia => exact ⟨_, _, rfl, .inr (same_sqT e q), kz _ fun _ => by rw [ia.len]; exact .int _⟩) hg (by decide) (by decide) he hpl
/-! all, any, sum of lists -/
theorem de_all {bs : List Bool} (hm : X.mg "all" = none) (h : DE X a δ (.lst (bs.map D.bl)) δ1) (hc : X.calm = true := by rfl) (hg : Gl X "all" := by rfl) (he : starEach [a] X.env = (false, eval a X.env) :: starEach [] X.env := by exact st_any rfl) (hpl : (backTo pos (starEach [] X.env)).any (·.1) = false := by rfl) :
    DE X (.Call (.Name "all" p) [a] [] pos) δ (.bl (bs.all id)) δ1 :=
  de_b1 (cr_all hc) hm PyProof.Rows.boot_all h (fun v H Q R e iv kz => by
    cases iv with
    | lst q ia => exact ⟨_, bs, rfl, SqL.of (by rw [← ia.bls]; exact e _ _ q), kz _ fun _ => .bl _⟩) hg (by decide) (by decide) he hpl
theorem de_any {bs : List Bool} (hm : X.mg "any" = none) (h : DE X a δ (.lst (bs.map D.bl)) δ1) (hc : X.calm = true := by rfl) (hg : Gl X "any" := by rfl) (he : starEach [a] X.env = (false, eval a X.env) :: starEach [] X.env := by exact st_any rfl) (hpl : (backTo pos (starEach [] X.env)).any (·.1) = false := by rfl) :
    DE X (.Call (.Name "any" p) [a] [] pos) δ (.bl (bs.any id)) δ1 :=
  de_b1 (cr_any hc) hm PyProof.Rows.boot_any h (fun v H Q R e iv kz => by
    cases iv with
    | lst q ia => exact ⟨_, bs, rfl, SqL.of (by rw [← ia.bls]; exact e _ _ q), kz _ fun _ => .bl _⟩) hg (by decide) (by decide) he hpl
theorem de_sum {ns : List Int} (hm : X.mg "sum" = none) (h : DE X a δ (.lst (ns.map D.int)) δ1) (hc : X.calm = true := by rfl) (hg : Gl X "sum" := by rfl) (he : starEach [a] X.env = (false, eval a X.env) :: starEach [] X.env := by exact st_any rfl) (hpl : (backTo pos (starEach [] X.env)).any (·.1) = false := by rfl) :
    DE X (.Call (.Name "sum" p) [a] [] pos) δ (.int ns.sum) δ1 :=
  de_b1 (cr_sum hc) hm PyProof.Rows.boot_sum h (fun v H Q R e iv kz => by
    cases iv with
    | lst q ia => exact ⟨_, ns, rfl, SqL.of (by rw [← ia.ints]; exact e _ _ q), kz _ fun _ => .int _⟩) hg (by decide) (by decide) he hpl
/-! max, min of two ints -/
theorem de_max2 {m n : Int} (hm : X.mg "max" = none) (h : DA X [a, b] δ [.int m, .int n] δ1) (hc : X.calm = true := by rfl) (hg : Gl X "max" := by rfl) (he : starEach [a, b] X.env = (false, eval a X.env) :: starEach [b] X.env := by exact st_any rfl) (hpl : (backTo pos (starEach [b] X.env)).any (·.1) = false := by rfl) :
    DE X (.Call (.Name "max" p) [a, b] [] pos) δ (.int (max m n)) δ1 := fun F R H σ Q s k =>
  (pe_callB (call_max2 hc) hg hm PyProof.Rows.boot_max paW (by decide) (by decide) he hpl).w (h F R H σ _ s fun vs R1 H1 t1 s1 ia => by
    cases ia with
    | cons i1 i2 =>
      cases i2 with
      | cons i2 i3 =>
        cases i1
        cases i2
        cases i3
        refine ⟨m, n, rfl, k _ R1 H1 t1 s1 ?_⟩
        have e : (if n > m then n else m) = max m n := by
          show (if m < n then n else m) = max m n
          by_cases h : m < n
          · rw [if_pos h]; omega
          · rw [if_neg h]; omega
        rw [e]
        exact .int _)
theorem de_min2 {m n : Int} (hm : X.mg "min" = none) (h : DA X [a, b] δ [.int m, .int n] δ1) (hc : X.calm = true := by rfl) (hg : Gl X "min" := by rfl) (he : starEach [a, b] X.env = (false, eval a X.env) :: starEach [b] X.env := by exact st_any rfl) (hpl : (backTo pos (starEach [b] X.env)).any (·.1) = false := by rfl) :
    DE X (.Call (.Name "min" p) [a, b] [] pos) δ (.int (min m n)) δ1 := fun F R H σ Q s k =>
  (pe_callB (call_min2 hc) hg hm PyProof.Rows.boot_min paW (by decide) (by decide) he hpl).w (h F R H σ _ s fun vs R1 H1 t1 s1 ia => by
    cases ia with
    | cons i1 i2 =>
      cases i2 with
      | cons i2 i3 =>
        cases i1
        cases i2
        cases i3
        refine ⟨m, n, rfl, k _ R1 H1 t1 s1 ?_⟩
        have e : (if n < m then n else m) = min m n := by
          by_cases h : n < m
          · rw [if_pos h]; omega
          · rw [if_neg h]; omega
        rw [e]
        exact .int _)
/-! isinstance of a value and a built-in class -/
def tyD : D → Option String
  | .non => some "NoneType"
  | .bl _ => some "bool"
  | .int _ => some "int"
  | .str _ => some "str"
  | .lst _ => some "list"
  | .tup _ => some "tuple"
  | .rol _ => some "list"
  | .obj _ _ _ => none
  | .at_ _ => none
  | .emp => some "dict"
  | .dct _ _ _ => none
  | .dii _ => none
theorem kit_int_int : kitB "int" "int" = some true := by decide +kernel
theorem kit_int_bool : kitB "int" "bool" = some false := by decide +kernel
theorem kit_tup_tup : kitB "tuple" "tuple" = some true := by decide +kernel
theorem kit_lst_lst : kitB "list" "list" = some true := by decide +kernel
theorem kit_str_str : kitB "str" "str" = some true := by decide +kernel
theorem kit_int_tup : kitB "int" "tuple" = some false := by decide +kernel
theorem kit_tup_int : kitB "tuple" "int" = some false := by decide +kernel
theorem kit_bool_int : kitB "bool" "int" = some true := by decide +kernel
theorem kit_bool_bool : kitB "bool" "bool" = some true := by decide +kernel
theorem kit_tup_str : kitB "tuple" "str" = some false := by decide +kernel
theorem is_ty {K : PySem.W.Frag} {R H : Hp} {v : V} {d : D} {t : String} (e : Same R H) (h : Is K R v d) (ht : tyD d = some t) : TyX K H v (.type t) := by
  cases h with
  | non => cases ht; exact .base .non
  | bl b => cases ht; exact .base (.bl b)
  | int b => cases ht; exact .base (.int b)
  | str b => cases ht; exact .base (.str b)
  | lst q ia => cases ht; exact .base (.lst (e _ _ q))
  | rol q ia =>
    cases ht
    rcases q with (q | ⟨o, q⟩) | ⟨o, its, n, q, qc, _⟩
    · exact .base (.lst (e _ _ q))
    · exact .base (.frz (e _ _ q))
    · exact .kList q qc
  | tup q ia =>
    cases ht
    rcases q with (q | ⟨o, q⟩) | ⟨o, its, n, q, qc, _⟩
    · exact .base (.tup (e _ _ q))
    · exact .fTuple (e _ _ q)
    · exact .kTuple q qc
  | obj q qn ia => cases ht
  | at_ p => cases ht
  | emp q => cases ht; exact .base (.dK (e _ _ q))
  | dct q => cases ht
  | dii q => cases ht
theorem de_isi {t : String} {cn : Str} {m : Bool} {cp : Pos} (hm : X.mg "isinstance" = none) (hmc : X.mg cn = none) (u : String) (hv : bootBuiltins cn = some (.type u)) (h : DE X a δ d δ1) (ht : tyD d = some t) (hk : kitB t u = some m) (hg : Gl X "isinstance" := by rfl) (hgc : Gl X cn := by rfl) (hn : cn ≠ "__name__" := by decide)
    (hdb : (cn == ("__debug__" : Str)) = false := by decide) (he : starEach [a, .Name cn cp] X.env = (false, eval a X.env) :: starEach [.Name cn cp] X.env := by exact st_any rfl) (he2 : starEach [.Name cn cp] X.env = (false, eval (.Name cn cp) X.env) :: starEach [] X.env := by exact st_any rfl) (hpl : (backTo pos (starEach [.Name cn cp] X.env)).any (·.1) = false := by rfl) :
    DE X (.Call (.Name "isinstance" p) [a, .Name cn cp] [] pos) δ (.bl m) δ1 := fun F R H σ Q s k =>
  (pe_callB call_isi hg hm PyProof.Rows.boot_isinstance (pa_cons peW (pa_cons (pe_bltn (v := .ty u) hgc hmc hv rfl hn hdb) pa_nil he2) he) (by decide) (by decide) he hpl).w (h F R H σ _ s fun v R1 H1 t1 s1 iv =>
    ⟨v, .ty u, .type t, .type u, m, rfl, .ty u, is_ty s1.rg iv ht, kit_ty hk, k _ R1 H1 t1 s1 (.bl _)⟩)
/-! tuple(list), list(..), list(range(..)) -/
theorem de_tupL (hm : X.mg "tuple" = none) (h : DE X a δ (.lst ds) δ1) (hg : Gl X "tuple" := by rfl) (he : starEach [a] X.env = (false, eval a X.env) :: starEach [] X.env := by exact st_any rfl) (hpl : (backTo pos (starEach [] X.env)).any (·.1) = false := by rfl) : DE X (.Call (.Name "tuple" p) [a] [] pos) δ (.tup ds) δ1 := fun F R H σ Q s k =>
  (pe_callTy call_tuple_of hg hm PyProof.Rows.boot_tuple paW (by decide) (by decide) he hpl).w ((da_one h he) F R H σ _ s fun vs R1 H1 t1 s1 ia => by
    cases ia with
    | cons i1 i2 =>
      cases i2
      cases i1 with
      | lst q ia =>
        exact ⟨_, _, rfl, .inl ⟨SqL.of (s1.rg _ _ q), fun l hl => by
          obtain ⟨s2, t2⟩ := s1.new (o := .tup _) hl
          exact k _ _ _ (t1.trans t2) s2 (.tup (.inl (.inl upd_same)) (ia.mono t2.ex))⟩⟩)
theorem do_listL (hm : X.mg "list" = none) (h : DE X a δ (.lst ds) δ1) (hg : Gl X "list" := by rfl) (he : starEach [a] X.env = (false, eval a X.env) :: starEach [] X.env := by exact st_any rfl) (hpl : (backTo pos (starEach [] X.env)).any (·.1) = false := by rfl) : DO X (.Call (.Name "list" p) [a] [] pos) δ ds δ1 := fun F R H σ Q s k =>
  (pe_callTy call_list_of hg hm PyProof.Rows.boot_list paW (by decide) (by decide) he hpl).w ((da_one h he) F R H σ _ s fun vs R1 H1 t1 s1 ia => by
    cases ia with
    | cons i1 i2 =>
      cases i2
      cases i1 with
      | lst q ia =>
        refine ⟨_, _, rfl, .inl (SqL.of (s1.rg _ _ q)), fun l hl => k l _ R1 _ t1 (s1.off hl) (s1.fr.free hl) (s1.rg.free hl) upd_same ia fun i es q => ?_⟩
        obtain ⟨_, _, _, ys, hy, _⟩ := s1.at_ i _ q
        rw [hl] at hy
        cases hy)
theorem do_listRg {m : Int} {rp rpos : Pos} (hm : X.mg "list" = none) (hmr : X.mg "range" = none) (h : DE X a δ (.int m) δ1) (hb : 0 ≤ m ∧ m ≤ 1000000) (hc : X.calm = true := by rfl) (hg : Gl X "list" := by rfl) (hgr : Gl X "range" := by rfl) (he : starEach [a] X.env = (false, eval a X.env) :: starEach [] X.env := by exact st_any rfl)
    (he2 : starEach [.Call (.Name "range" rp) [a] [] rpos] X.env = (false, eval (.Call (.Name "range" rp) [a] [] rpos) X.env) :: starEach [] X.env := by rfl) : DO X (.Call (.Name "list" p) [.Call (.Name "range" rp) [a] [] rpos] [] pos) δ ((List.range m.toNat).map fun i : Nat => D.int (i : Int)) δ1 := fun F R H σ Q s k =>
  (pe_listRg hc hg hm (prg_1 hgr hmr peW he) he2).w (h F R H σ _ s fun v R1 H1 t1 s1 iv => by
    cases iv
    refine ⟨m, rfl, RgOk.of_le (by omega) (by omega) (by omega) (by omega), fun q hq => k q _ R1 _ t1 (s1.off hq) (s1.fr.free hq) (s1.rg.free hq) upd_same ?_ fun i es z => ?_⟩
    · have e : rgV 0 m = ((List.range m.toNat).map fun i : Nat => (i : Int)).map V.int := by
        unfold rgV
        rw [List.map_map, Int.sub_zero]
        refine List.map_congr_left fun i _ => ?_
        show V.int (0 + (i : Int)) = V.int (i : Int)
        rw [Int.zero_add]
      have e2 : ((List.range m.toNat).map fun i : Nat => D.int (i : Int)) = ((List.range m.toNat).map fun i : Nat => (i : Int)).map D.int := by
        rw [List.map_map]
        rfl
      rw [e, e2]
      exact isA_ints _
    · obtain ⟨_, _, _, ys, hy, _⟩ := s1.at_ i _ z
      rw [hq] at hy
      cases hy)
/-! starred items -/
theorem da_starT {sp : Pos} (h : DE X e δ (.tup ds) δ1) {gs : List D} (hr : DA X es δ1 gs δ2) (hs : starEach (.Starred e sp :: es) X.env = (true, eval e X.env) :: starEach es X.env := by rfl) : DA X (.Starred e sp :: es) δ (ds ++ gs) δ2 := fun F R H σ Q s k =>
  (StX.pa_star peW paW hs).w (h F R H σ _ s fun v R1 H1 t1 s1 iv => by
    cases iv with
    | tup q ia => exact ⟨_, _, rfl, .inl (same_sqT s1.rg q), hr F R1 H1 σ _ s1 fun ws R2 H2 t2 s2 iw => k _ R2 H2 (t1.trans t2) s2 ((ia.mono t2.ex).app iw)⟩)
theorem da_starL {sp : Pos} (h : DE X e δ (.lst ds) δ1) {gs : List D} (hr : DA X es δ1 gs δ2) (hs : starEach (.Starred e sp :: es) X.env = (true, eval e X.env) :: starEach es X.env := by rfl) : DA X (.Starred e sp :: es) δ (ds ++ gs) δ2 := fun F R H σ Q s k =>
  (StX.pa_star peW paW hs).w (h F R H σ _ s fun v R1 H1 t1 s1 iv => by
    cases iv with
    | lst q ia => exact ⟨_, _, rfl, .inr (SqL.of (s1.rg _ _ q)), hr F R1 H1 σ _ s1 fun ws R2 H2 t2 s2 iw => k _ R2 H2 (t1.trans t2) s2 ((ia.mono t2.ex).app iw)⟩)
end

/-! ascending lists without repetition -/
def ins (n : Int) : List Int → List Int
  | [] => [n]
  | m :: ms => if n < m then n :: m :: ms else if n = m then m :: ms else m :: ins n ms
def usort : List Int → List Int
  | [] => []
  | n :: ns => ins n (usort ns)
theorem mem_ins {n k : Int} : ∀ {ms : List Int}, k ∈ ins n ms ↔ k = n ∨ k ∈ ms
  | [] => by simp [ins]
  | m :: ms => by
    unfold ins
    by_cases h : n < m
    · rw [if_pos h, List.mem_cons]
    · rw [if_neg h]
      by_cases h2 : n = m
      · rw [if_pos h2, List.mem_cons]
        subst h2
        constructor
        · exact fun q => .inr q
        · exact fun q => q.elim (fun e => .inl e) id
      · rw [if_neg h2, List.mem_cons, mem_ins, List.mem_cons]
        constructor
        · rintro (q | q | q)
          · exact .inr (.inl q)
          · exact .inl q
          · exact .inr (.inr q)
        · rintro (q | q | q)
          · exact .inr (.inl q)
          · exact .inl q
          · exact .inr (.inr q)
theorem mem_usort {k : Int} : ∀ {ns : List Int}, k ∈ usort ns ↔ k ∈ ns
  | [] => Iff.rfl
  | n :: ns => by
    show k ∈ ins n (usort ns) ↔ _
    rw [mem_ins, mem_usort, List.mem_cons]
theorem ins_asc {n : Int} : ∀ {ms : List Int}, ms.Pairwise (· < ·) → (ins n ms).Pairwise (· < ·)
  | [], _ => List.pairwise_singleton _ _
  | m :: ms, h => by
    obtain ⟨h1, h2⟩ := List.pairwise_cons.mp h
    unfold ins
    by_cases q : n < m
    · rw [if_pos q]
      refine List.pairwise_cons.mpr ⟨fun k hk => ?_, h⟩
      rcases List.mem_cons.mp hk with e | hk
      · rw [e]; exact q
      · exact Int.lt_trans q (h1 k hk)
    · rw [if_neg q]
      by_cases q2 : n = m
      · rw [if_pos q2]
        exact h
      · rw [if_neg q2]
        refine List.pairwise_cons.mpr ⟨fun k hk => ?_, ins_asc h2⟩
        rcases mem_ins.mp hk with e | hk
        · rw [e]; omega
        · exact h1 k hk
theorem usort_asc : ∀ ns : List Int, (usort ns).Pairwise (· < ·)
  | [] => .nil
  | n :: ns => ins_asc (usort_asc ns)
theorem asc_unique : ∀ {xs ys : List Int}, xs.Pairwise (· < ·) → ys.Pairwise (· < ·) → (∀ k, k ∈ xs ↔ k ∈ ys) → xs = ys
  | [], [], _, _, _ => rfl
  | [], y :: ys, _, _, h => absurd ((h y).mpr List.mem_cons_self) List.not_mem_nil
  | x :: xs, [], _, _, h => absurd ((h x).mp List.mem_cons_self) List.not_mem_nil
  | x :: xs, y :: ys, hx, hy, h => by
    obtain ⟨x1, x2⟩ := List.pairwise_cons.mp hx
    obtain ⟨y1, y2⟩ := List.pairwise_cons.mp hy
    have e : x = y := by
      rcases List.mem_cons.mp ((h x).mp List.mem_cons_self) with e | m
      · exact e
      · rcases List.mem_cons.mp ((h y).mpr List.mem_cons_self) with e | m2
        · exact e.symm
        · have := y1 x m
          have := x1 y m2
          omega
    subst e
    refine congrArg _ (asc_unique x2 y2 fun k => ⟨fun m => ?_, fun m => ?_⟩)
    · rcases List.mem_cons.mp ((h k).mp (List.mem_cons_of_mem _ m)) with e | q
      · have := x1 k m
        omega
      · exact q
    · rcases List.mem_cons.mp ((h k).mpr (List.mem_cons_of_mem _ m)) with e | q
      · have := y1 k m
        omega
      · exact q
theorem usort_len : ∀ ns : List Int, (usort ns).length ≤ ns.length
  | [] => Nat.le_refl _
  | n :: ns => by
    have h : ∀ ms : List Int, (ins n ms).length ≤ ms.length + 1 := fun ms => by
      induction ms with
      | nil => exact Nat.le_refl _
      | cons m ms ih =>
        unfold ins
        split
        · simp
        · split
          · simp
          · simp only [List.length_cons]
            omega
    have := h (usort ns)
    have := usort_len ns
    show (ins n (usort ns)).length ≤ ns.length + 1
    omega
section
variable {X : Cx} {a : Expr} {ta : TE} {p p2 q pos : Pos} {δ δ1 : List Sl}
def tSortSet (K : PySem.W.Frag) (ta : TE) : TE := fun σ H Q => ta σ H fun x H1 => ∃ (l : Addr) (ns : List Int), x = .ref l ∧ SqL K H1 l (ns.map V.int) ∧ ns.length ≤ 60 ∧ ∀ r, H1 r = none → Q (.ref r) (upd H1 r (.lst ((usort ns).map V.int)))
/-- sorted(set(xs)), xs a list of ints -/
theorem pe_sortSet (hg : Gl X "sorted") (hm : X.mg "sorted" = none) (hg2 : Gl X "set") (hm2 : X.mg "set" = none) (ha : PE X a ta) (hc : X.calm = true := by rfl) (na : starEach [a] X.env = (false, eval a X.env) :: starEach [] X.env := by exact st_any rfl) :
    PE X (.Call (.Name "sorted" p) [.Call (.Name "set" p2) [a] [] q] [] pos) (tSortSet X.K ta) := by
  refine ⟨fun pins s σ H Q I h => Call_ (ld_blt I hg hm PyProof.Rows.boot_sorted (PyProof.Rows.callWith_builtin1 (PyProof.Rows.args_cons ?_ rfl) rfl rfl))⟩
  refine Call_ (ld_blt I hg2 hm2 PyProof.Rows.boot_set (PyProof.Rows.callWith_type1 (PyProof.Rows.args_cons (thn (ha.run pins s σ H _ I h) fun v s1 ⟨x, H1, I1, r1, q1⟩ => PyProof.Rows.args_nil ?_) na) na rfl))
  obtain ⟨l, ns, rfl, hq, hl, q1⟩ := q1
  have r1' : v = Value.ref l := r1
  subst r1'
  obtain ⟨its, r, pl, hz⟩ := I1.list hq
  refine Dz.set_of_list ns (I1.ok.hd hc) pl.isList (by simpa using r.ints) (by unfold scanBound; omega) fun s2 ⟨h', tk, c, e2, hS, hcn, hk⟩ => PyProof.Rows.args_nil ?_
  subst e2
  have I2 : L2.Inv X pins σ H1 { s1 with heap := h', toks := tk } := I1.kept hk
  refine sorted_set hS (I2.ok.hd hc) (by omega) fun s' r0 out cc ms kp eg eo hp hgt hi hs hm hlen => ?_
  have em : ms = usort ns := asc_unique hs (usort_asc ns) fun k => by
    rw [hm k, mem_usort]
    exact decide_eq_true_iff
  have hn : H1 r0 = none := I2.hok.fresh hp
  have J : L2.Inv X pins σ (upd H1 r0 (.lst (ms.map V.int))) { (Shared.mk h' s1.gens s1.drawn tk s1.os) with heap := s'.heap, gens := s'.gens, drawn := s'.drawn, toks := s'.toks } :=
    Inv.call (s := Shared.mk h' s1.gens s1.drawn tk s1.os) (ch := []) I2 (Un.laid kp hp hn) (I2.hok.laid kp hp ⟨by rw [List.length_map, hlen, sizeLine_eq]; omega, out.toList, cc, vals_of_ints hi, hgt⟩) (by rw [eg]; exact I2.bare) (fun _ z => nomatch z)
  have es : s' = { s1 with heap := s'.heap, gens := s'.gens, drawn := s'.drawn, toks := s'.toks } := by
    cases s'
    cases s1
    cases eo
    rfl
  rw [es]
  exact ⟨.ref r0, _, J, rfl, by rw [em]; exact q1 r0 hn⟩
theorem do_sortSet {ns : List Int} (hm : X.mg "sorted" = none) (hm2 : X.mg "set" = none) (h : DE X a δ (.lst (ns.map D.int)) δ1) (hl : ns.length ≤ 60) (hc : X.calm = true := by rfl) (hg : Gl X "sorted" := by rfl) (hg2 : Gl X "set" := by rfl) (na : starEach [a] X.env = (false, eval a X.env) :: starEach [] X.env := by exact st_any rfl) :
    DO X (.Call (.Name "sorted" p) [.Call (.Name "set" p2) [a] [] q] [] pos) δ ((usort ns).map D.int) δ1 := fun F R H σ Q s k =>
  (pe_sortSet hg hm hg2 hm2 peW hc na).w (h F R H σ _ s fun v R1 H1 t1 s1 iv => by
    cases iv with
    | lst qa ia =>
      refine ⟨_, ns, rfl, SqL.of (by rw [← ia.ints]; exact s1.rg _ _ qa), hl, fun r hr => k r _ R1 _ t1 (s1.off hr) (s1.fr.free hr) (s1.rg.free hr) upd_same (isA_ints _) fun i es z => ?_⟩
      obtain ⟨_, _, _, ys, hy, _⟩ := s1.at_ i _ z
      rw [hr] at hy
      cases hy)
end
end Dy

/-! part Ly7 -/
namespace Dy
open PySem PySem.Spec PyProof.Rows L2

abbrev tI (t : List Int) : D := .tup (t.map D.int)
/-- the i-th components -/
def col (ts : List (List Int)) (i : Nat) : List Int := ts.map fun t => t.getD i 0
theorem refs_of {K : PySem.W.Frag} {R : Hp} : ∀ {vs : List V} {ts : List (List Int)}, IsA K R vs (ts.map tI) → ∃ ls : List Addr, vs = ls.map V.ref ∧ ls.length = ts.length ∧ ∀ (j : Nat) (l : Addr), ls[j]? = some l → ∃ t, ts[j]? = some t ∧ SqT K R l (t.map V.int)
  | _, [], h => by
    cases h
    exact ⟨[], rfl, rfl, fun j l h => by simp at h⟩
  | _, t :: ts, h => by
    cases h with
    | cons a b =>
      obtain ⟨ls, e1, e2, e3⟩ := refs_of b
      cases a with
      | tup q ia =>
        rename_i l xs
        refine ⟨l :: ls, by rw [e1]; rfl, by rw [List.length_cons, List.length_cons, e2], fun j m hm => ?_⟩
        cases j with
        | zero =>
          cases hm
          exact ⟨t, rfl, by rw [← ia.ints]; exact q⟩
        | succ j =>
          obtain ⟨t', h1, h2⟩ := e3 j m (by simpa using hm)
          exact ⟨t', by simpa using h1, h2⟩
theorem wlk_zipS {K : PySem.W.Frag} {R : Hp} {ls : List Addr} {ts : List (List Int)} {m : Nat} (hl : ls.length = ts.length) (hne : ts ≠ []) (hm : ∀ t ∈ ts, t.length = m) (h : ∀ (j : Nat) (l : Addr), ls[j]? = some l → ∃ t, ts[j]? = some t ∧ SqT K R l (t.map V.int)) :
    Wlk K (Dz.ItN K ls) R ((List.range m).map fun i => tI (col ts i)) := by
  have hlen : ((List.range m).map fun i => tI (col ts i)).length = m := by rw [List.length_map, List.length_range]
  refine ⟨fun H e => ?_, fun i H e hi => ?_, fun i d H x H' R2 e1 e2 hd y => ?_⟩
  · rw [hlen]
    have h0 : 0 < ls.length := by
      rw [hl]
      exact List.length_pos_iff.mpr hne
    obtain ⟨t, h1, h2⟩ := h 0 ls[0] (List.getElem?_eq_getElem h0)
    exact ⟨ls[0], _, List.getElem?_eq_getElem h0, same_sqT e h2, by rw [List.length_map, hm t (List.mem_of_getElem? h1)]; exact Nat.le_refl _⟩
  · rw [hlen] at hi
    refine ⟨(col ts i).map V.int, by rw [List.length_map, col, List.length_map, hl], fun j l hj => ?_⟩
    obtain ⟨t, h1, h2⟩ := h j l hj
    have hi2 : i < t.length := by rw [hm t (List.mem_of_getElem? h1)]; exact hi
    refine ⟨_, .int (t.getD i 0), same_sqT e h2, ?_, ?_⟩
    · rw [List.getElem?_map, List.getElem?_eq_getElem hi2, List.getD_eq_getElem?_getD, List.getElem?_eq_getElem hi2]
      rfl
    · rw [List.getElem?_map, col, List.getElem?_map, h1]
      rfl
  · obtain ⟨T, vs, rfl, hT, rfl, hv, hy⟩ := y
    have hi : i < m := by
      have q := (List.getElem?_eq_some_iff.mp hd).1
      rw [hlen] at q
      exact q
    rw [List.getElem?_map, List.getElem?_range hi] at hd
    cases hd
    have ev : vs = (col ts i).map V.int := by
      refine List.ext_getElem? fun j => ?_
      by_cases hj : j < ls.length
      · obtain ⟨t, h1, h2⟩ := h j ls[j] (List.getElem?_eq_getElem hj)
        have q := hy j ls[j] (List.getElem?_eq_getElem hj) _ (same_sqT (e1.trans e2) h2)
        have hi2 : i < t.length := by rw [hm t (List.mem_of_getElem? h1)]; exact hi
        rw [← q, List.getElem?_map, List.getElem?_eq_getElem hi2, List.getElem?_map, col, List.getElem?_map, h1]
        show some (V.int t[i]) = some (V.int (t.getD i 0))
        rw [List.getD_eq_getElem?_getD, List.getElem?_eq_getElem hi2]
        rfl
      · rw [List.getElem?_eq_none (by omega), List.getElem?_eq_none (by rw [List.length_map, col, List.length_map]; omega)]
    subst ev
    exact .inr ⟨T, _, hT, rfl, .tup (.inl (.inl upd_same)) (isA_ints _)⟩
section
variable {X : Cx} {a e : Expr} {δ δ1 : List Sl} {p sp pos np : Pos} {x : Str} {ts : List (List Int)} {m k : Nat}
theorem di_zipSL (hg : Gl X "zip") (hm : X.mg "zip" = none) (h : DE X e δ (.lst (ts.map tI)) δ1) (hne : ts ≠ []) (hlen : ts.length ≤ 1000) (hall : ∀ t ∈ ts, t.length = m) (hst : starEach [.Starred e sp] X.env = [(true, eval e X.env)] := by rfl) :
    DI X (.Name x np) (.Call (.Name "zip" p) [.Starred e sp] [] pos) δ ((List.range m).map fun i => tI (col ts i)) δ1 := fun F R H σ Z s k =>
  (Dz.pi_zipS hg hm peW (fun _ _ => rfl) hst).w (h F R H σ _ s fun v R1 H1 t1 s1 iv => by
    cases iv with
    | lst q ia =>
      obtain ⟨ls, rfl, e2, e3⟩ := refs_of ia
      refine ⟨_, ls, rfl, .inr (SqL.of (s1.rg _ _ q)), fun z => hne (List.eq_nil_of_length_eq_zero (by rw [← e2, z]; rfl)), by rw [e2]; exact hlen, fun l hl => ?_, k _ R1 H1 t1 s1 (wlk_zipS e2 hne hall e3)⟩
      obtain ⟨j, hj⟩ := List.mem_iff_getElem?.mp hl
      obtain ⟨t, _, h2⟩ := e3 j l hj
      exact ⟨_, same_sqT s1.rg h2⟩)
theorem di_zipST (hg : Gl X "zip") (hm : X.mg "zip" = none) (h : DE X e δ (.tup (ts.map tI)) δ1) (hne : ts ≠ []) (hlen : ts.length ≤ 1000) (hall : ∀ t ∈ ts, t.length = m) (hst : starEach [.Starred e sp] X.env = [(true, eval e X.env)] := by rfl) :
    DI X (.Name x np) (.Call (.Name "zip" p) [.Starred e sp] [] pos) δ ((List.range m).map fun i => tI (col ts i)) δ1 := fun F R H σ Z s k =>
  (Dz.pi_zipS hg hm peW (fun _ _ => rfl) hst).w (h F R H σ _ s fun v R1 H1 t1 s1 iv => by
    cases iv with
    | tup q ia =>
      obtain ⟨ls, rfl, e2, e3⟩ := refs_of ia
      refine ⟨_, ls, rfl, .inl (same_sqT s1.rg q), fun z => hne (List.eq_nil_of_length_eq_zero (by rw [← e2, z]; rfl)), by rw [e2]; exact hlen, fun l hl => ?_, k _ R1 H1 t1 s1 (wlk_zipS e2 hne hall e3)⟩
      obtain ⟨j, hj⟩ := List.mem_iff_getElem?.mp hl
      obtain ⟨t, _, h2⟩ := e3 j l hj
      exact ⟨_, same_sqT s1.rg h2⟩)
/-! max, min of a tuple of ints -/
theorem alikeI : ∀ ns : List Int, PySem.W.AlikeAll (ns.map PyData.int) := fun ns => ⟨fun x hx y hy => by
  obtain ⟨i, _, rfl⟩ := List.mem_map.mp hx
  obtain ⟨j, _, rfl⟩ := List.mem_map.mp hy
  rfl, fun x hx e => by
  obtain ⟨i, _, rfl⟩ := List.mem_map.mp hx
  cases e⟩
theorem depthI : ∀ ns : List Int, PyData.depthAll (ns.map PyData.int) = 0
  | [] => rfl
  | n :: ns => by
    show max (PyData.depth (.int n)) (PyData.depthAll (ns.map PyData.int)) = 0
    rw [depthI ns]
    rfl
theorem dpAll_ints {K : PySem.W.Frag} {H : Hp} : ∀ ns : List Int, DpAll K H (ns.map V.int) (ns.map PyData.int)
  | [] => .nil
  | n :: ns => .cons (.int n) (dpAll_ints ns)
def maxI (n : Int) (ns : List Int) : Int := ns.foldl max n
def minI (n : Int) (ns : List Int) : Int := ns.foldl min n
theorem cr_maxT (hc : X.calm = true) (hu : X.A.units + 64 < cLine) : CallR X (.builtin "max") (fun vs H Q => ∃ a n ns, vs = [V.ref a] ∧ SqT X.K H a ((n :: ns).map V.int) ∧ Q (.int (maxI n ns)) H) := by
  intro pins s σ H vs us Q I r h
  obtain ⟨a, n, ns, rfl, hq, q⟩ := h
  rw [Vals.ref1 r]
  obtain ⟨its, rv, p, _⟩ := I.tuple hq
  obtain ⟨as, hr⟩ := Dp.readsAll I _ _ its (dpAll_ints (n :: ns)) rv
  refine PySem.W.max_tuple_data (x := .int n) (xs := ns.map PyData.int) (I.ok.hd hc) p (by simpa using hr) (alikeI (n :: ns)) (by
    have e : PyData.depthAll (PyData.int n :: ns.map PyData.int) = 0 := depthI (n :: ns)
    rw [e]
    omega) fun i v h' tk bs hv hrv hk => ?_
  rw [PySem.W.maxD_ints] at hrv
  cases hrv
  exact ⟨.int _, H, I.kept (t' := tk) hk, ⟨_, rfl⟩, q⟩
theorem cr_minT (hc : X.calm = true) (hu : X.A.units + 64 < cLine) : CallR X (.builtin "min") (fun vs H Q => ∃ a n ns, vs = [V.ref a] ∧ SqT X.K H a ((n :: ns).map V.int) ∧ Q (.int (minI n ns)) H) := by
  intro pins s σ H vs us Q I r h
  obtain ⟨a, n, ns, rfl, hq, q⟩ := h
  rw [Vals.ref1 r]
  obtain ⟨its, rv, p, _⟩ := I.tuple hq
  obtain ⟨as, hr⟩ := Dp.readsAll I _ _ its (dpAll_ints (n :: ns)) rv
  refine PySem.W.min_tuple_data (x := .int n) (xs := ns.map PyData.int) (I.ok.hd hc) p (by simpa using hr) (alikeI (n :: ns)) (by
    have e : PyData.depthAll (PyData.int n :: ns.map PyData.int) = 0 := depthI (n :: ns)
    rw [e]
    omega) fun i v h' tk bs hv hrv hk => ?_
  rw [PySem.W.minD_ints] at hrv
  cases hrv
  exact ⟨.int _, H, I.kept (t' := tk) hk, ⟨_, rfl⟩, q⟩
theorem de_maxT {n : Int} {ns : List Int} (g : Gx X k) (hm : X.mg "max" = none) (h : DE X a δ (tI (n :: ns)) δ1) (hc : X.calm = true := by rfl) (hg : Gl X "max" := by rfl) (he : starEach [a] X.env = (false, eval a X.env) :: starEach [] X.env := by exact st_any rfl) (hpl : (backTo pos (starEach [] X.env)).any (·.1) = false := by rfl) :
    DE X (.Call (.Name "max" p) [a] [] pos) δ (.int (maxI n ns)) δ1 :=
  de_b1 (cr_maxT hc g.rm.units) hm PyProof.Rows.boot_max h (fun v H Q R e iv kz => by
    cases iv with
    | tup q ia => exact ⟨_, n, ns, rfl, by rw [← IsA.ints (ns := n :: ns) ia]; exact same_sqT e q, kz _ fun _ => .int _⟩) hg (by decide) (by decide) he hpl
theorem de_minT {n : Int} {ns : List Int} (g : Gx X k) (hm : X.mg "min" = none) (h : DE X a δ (tI (n :: ns)) δ1) (hc : X.calm = true := by rfl) (hg : Gl X "min" := by rfl) (he : starEach [a] X.env = (false, eval a X.env) :: starEach [] X.env := by exact st_any rfl) (hpl : (backTo pos (starEach [] X.env)).any (·.1) = false := by rfl) :
    DE X (.Call (.Name "min" p) [a] [] pos) δ (.int (minI n ns)) δ1 :=
  de_b1 (cr_minT hc g.rm.units) hm PyProof.Rows.boot_min h (fun v H Q R e iv kz => by
    cases iv with
    | tup q ia => exact ⟨_, n, ns, rfl, by rw [← IsA.ints (ns := n :: ns) ia]; exact same_sqT e q, kz _ fun _ => .int _⟩) hg (by decide) (by decide) he hpl
end

/-! comprehensions without changes: one element an item -/
section
variable {X : Cx}
/-- no test; the element is g of the item -/
theorem do_lcMap {tg it elt : Expr} {scope : Scope} {own : List (Str × Nat)} {pos : Pos} {δ δ1 δw : List Sl} {items : List D} (g : D → D) (ok : BlkOk X.N X.env.scope scope own) (hi : DI X tg it δ items δ1) (hw : wipeD δ1 (own.map (·.2)) = δw)
    (hs : ∀ d ∈ items, ∃ ws δ3 δ5, (∀ j ∈ ws, j ∈ own.map (·.2)) ∧ (Bk X scope fun Y => DG Y tg d ws δw δ3) ∧ (Bk X scope fun Y => DE Y elt δ3 (g d) δ5) ∧ wipeD δ5 (own.map (·.2)) = δw) (hz : items.length ≤ 1000000)
    (hc : X.calm = true := by rfl) (hN : X.N.Nodup := by first | assumption | decide) (hf : ∀ x, foldedSetIterable it X.env x = pure x := by intro _; rfl) : DO X (.ListComp elt [⟨tg, it, [], 0⟩] scope pos) δ (items.map g) δw :=
  do_lc ok hi (fun i acc δ => acc = (items.take i).map g ∧ δ = δw) ⟨rfl, hw⟩ (fun i d acc δ2 hd ⟨e1, e2⟩ => by
    subst e1 e2
    obtain ⟨ws, δ3, δ5, h1, h2, h3, h4⟩ := hs d (List.mem_of_getElem? hd)
    refine ⟨ws, δ3, true, δ3, h1, h2, fun _ _ _ _ _ => dts_nil, ?_⟩
    rw [if_pos rfl]
    refine ⟨g d, δ5, h3, ?_, h4⟩
    rw [List.take_add_one, hd, List.map_append]
    rfl) (fun acc δ2 ⟨e1, e2⟩ => ⟨by rw [e1, List.take_length], e2⟩) hz hc hN hf
theorem ds_lcMap {i : Nat} {y : Str} {py : Pos} {tg it elt : Expr} {scope : Scope} {own : List (Str × Nat)} {pos spos : Pos} {δ δ1 δw : List Sl} {items : List D} {Φ : DD} (g : D → D) (hy : X.N[i]? = some y) (ok : BlkOk X.N X.env.scope scope own) (hi : DI X tg it δ items δ1) (hw : wipeD δ1 (own.map (·.2)) = δw)
    (hs : ∀ d ∈ items, ∃ ws δ3 δ5, (∀ j ∈ ws, j ∈ own.map (·.2)) ∧ (Bk X scope fun Y => DG Y tg d ws δw δ3) ∧ (Bk X scope fun Y => DE Y elt δ3 (g d) δ5) ∧ wipeD δ5 (own.map (·.2)) = δw) (hz : items.length ≤ 1000000) (q : ∀ p, Φ.nx (δw.set i (.own p (items.map g))))
    (hyl : X.env.scope.names.lookup y = some .local := by rfl) (hsw : swapsWith (.ListComp elt [⟨tg, it, [], 0⟩] scope pos) (some (.Name y py)) spos.line X.env = pure true := by exact sw_true rfl rfl rfl (by decide +kernel))
    (hc : X.calm = true := by rfl) (hN : X.N.Nodup := by first | assumption | decide) (hf : ∀ x, foldedSetIterable it X.env x = pure x := by intro _; rfl) : DS X (.Assign [.Name y py] (.ListComp elt [⟨tg, it, [], 0⟩] scope pos) spos) δ Φ :=
  ds_setLc hy ok hi (fun i acc δ => acc = (items.take i).map g ∧ δ = δw) ⟨rfl, hw⟩ (fun i d acc δ2 hd ⟨e1, e2⟩ => by
    subst e1 e2
    obtain ⟨ws, δ3, δ5, h1, h2, h3, h4⟩ := hs d (List.mem_of_getElem? hd)
    refine ⟨ws, δ3, true, δ3, h1, h2, fun _ _ _ _ _ => dts_nil, ?_⟩
    rw [if_pos rfl]
    refine ⟨g d, δ5, h3, ?_, h4⟩
    rw [List.take_add_one, hd, List.map_append]
    rfl) (fun acc δ2 ⟨e1, e2⟩ => ⟨by rw [e1, List.take_length], e2⟩) hz q hyl hsw hc hN hf
end
end Dy

/-! part Ly8 -/
namespace Dy
open PySem PySem.Spec PyProof.Rows L2
/-! comparisons as tests -/
section
variable {X : Cx} {a b c : Expr} {δ δ1 δ2 : List Sl} {pos : Pos} {d1 d2 : D} {k n : Nat}
theorem dt_ci {op : CmpOp} {g : Int → Int → Bool} {m n : Int} (ho : OpR X (compareOp op) (rI0 fun i j => .bl (g i j))) (hm : behindInMarks op b = false) (ha : DE X a δ (.int m) δ1) (hb : DE X b δ1 (.int n) δ2) : DT X (.Compare a [op] [b] pos) δ (g m n) δ2 := fun F R H σ Q s k =>
  (pt_cmpR ho peW peW hm).w (ha F R H σ _ s fun x R1 H1 t1 s1 ix => hb F R1 H1 σ _ s1 fun y R2 H2 t2 s2 iy => by
    cases ix
    cases iy
    exact ⟨m, n, rfl, rfl, _, rfl, k R2 H2 (t1.trans t2) s2⟩)
theorem dt_lt {m n : Int} (ha : DE X a δ (.int m) δ1) (hb : DE X b δ1 (.int n) δ2) : DT X (.Compare a [.Lt] [b] pos) δ (decide (m < n)) δ2 := dt_ci (g := fun i j => decide (i < j)) op_lt (nomark _) ha hb
theorem dt_le {m n : Int} (ha : DE X a δ (.int m) δ1) (hb : DE X b δ1 (.int n) δ2) : DT X (.Compare a [.LtE] [b] pos) δ (decide (m ≤ n)) δ2 := dt_ci (g := fun i j => decide (i ≤ j)) op_le (nomark _) ha hb
theorem dt_gt {m n : Int} (ha : DE X a δ (.int m) δ1) (hb : DE X b δ1 (.int n) δ2) : DT X (.Compare a [.Gt] [b] pos) δ (decide (n < m)) δ2 := dt_ci (g := fun i j => decide (j < i)) op_gt (nomark _) ha hb
theorem dt_ge {m n : Int} (ha : DE X a δ (.int m) δ1) (hb : DE X b δ1 (.int n) δ2) : DT X (.Compare a [.GtE] [b] pos) δ (decide (n ≤ m)) δ2 := dt_ci (g := fun i j => decide (j ≤ i)) op_ge (nomark _) ha hb
theorem dt_eqi {m n : Int} (ha : DE X a δ (.int m) δ1) (hb : DE X b δ1 (.int n) δ2) : DT X (.Compare a [.Eq] [b] pos) δ (decide (m = n)) δ2 := fun F R H σ Q s k =>
  (pt_cmp (pc_eqI peW peW) (nomark _)).w (ha F R H σ _ s fun x R1 H1 t1 s1 ix => hb F R1 H1 σ _ s1 fun y R2 H2 t2 s2 iy => by
    cases ix
    cases iy
    exact ⟨m, n, rfl, rfl, _, rfl, k R2 H2 (t1.trans t2) s2⟩)
theorem dt_nei {m n : Int} (ha : DE X a δ (.int m) δ1) (hb : DE X b δ1 (.int n) δ2) : DT X (.Compare a [.NotEq] [b] pos) δ (!decide (m = n)) δ2 := fun F R H σ Q s k =>
  (pt_cmp (pc_neI peW peW) (nomark _)).w (ha F R H σ _ s fun x R1 H1 t1 s1 ix => hb F R1 H1 σ _ s1 fun y R2 H2 t2 s2 iy => by
    cases ix
    cases iy
    exact ⟨m, n, rfl, rfl, _, rfl, k R2 H2 (t1.trans t2) s2⟩)
theorem dt_nebb {m n : Bool} (ha : DE X a δ (.bl m) δ1) (hb : DE X b δ1 (.bl n) δ2) : DT X (.Compare a [.NotEq] [b] pos) δ (!decide (m = n)) δ2 := fun F R H σ Q s k =>
  (pt_cmpR op_ne peW peW (nomark _)).w (ha F R H σ _ s fun x R1 H1 t1 s1 ix => hb F R1 H1 σ _ s1 fun y R2 H2 t2 s2 iy => by
    cases ix
    cases iy
    refine ⟨rfl, _, rfl, ?_⟩
    have e : decide (V.bl m = V.bl n) = decide (m = n) := by
      rw [dec_bl]
      cases m <;> cases n <;> rfl
    rw [e]
    exact k R2 H2 (t1.trans t2) s2)
theorem dt_nes {m n : Str} (ha : DE X a δ (.str m) δ1) (hb : DE X b δ1 (.str n) δ2) : DT X (.Compare a [.NotEq] [b] pos) δ (!decide (m = n)) δ2 := fun F R H σ Q s k =>
  (pt_cmpR op_ne peW peW (nomark _)).w (ha F R H σ _ s fun x R1 H1 t1 s1 ix => hb F R1 H1 σ _ s1 fun y R2 H2 t2 s2 iy => by
    cases ix
    cases iy
    refine ⟨rfl, _, rfl, ?_⟩
    have e : decide (V.str m = V.str n) = decide (m = n) := by
      by_cases h : m = n
      · rw [h, decide_eq_true rfl, decide_eq_true rfl]
      · rw [decide_eq_false h, decide_eq_false fun z => h (V.str.inj z)]
    rw [e]
    exact k R2 H2 (t1.trans t2) s2)
theorem dt_eqs {m n : Str} (ha : DE X a δ (.str m) δ1) (hb : DE X b δ1 (.str n) δ2) : DT X (.Compare a [.Eq] [b] pos) δ (decide (m = n)) δ2 := fun F R H σ Q s k =>
  (pt_cmpR op_eq peW peW (nomark _)).w (ha F R H σ _ s fun x R1 H1 t1 s1 ix => hb F R1 H1 σ _ s1 fun y R2 H2 t2 s2 iy => by
    cases ix
    cases iy
    refine ⟨rfl, _, rfl, ?_⟩
    have e : decide (V.str m = V.str n) = decide (m = n) := by
      by_cases h : m = n
      · rw [h, decide_eq_true rfl, decide_eq_true rfl]
      · rw [decide_eq_false h, decide_eq_false fun z => h (V.str.inj z)]
    rw [e]
    exact k R2 H2 (t1.trans t2) s2)
theorem dt_eqD (g : Gx X k) (ha : DE X a δ d1 δ1) (hb : DE X b δ1 d2 δ2) (o1 : okD n d1 = true) (o2 : okD n d2 = true) (hn6 : n ≤ 60 := by decide) : DT X (.Compare a [.Eq] [b] pos) δ (PyData.eqv (py d1) (py d2)) δ2 := fun F R H σ Q s kq =>
  (pt_cmpR (op_eqD g.rm.units) peW peW (nomark _)).w (ha F R H σ _ s fun x R1 H1 t1 s1 ix => hb F R1 H1 σ _ s1 fun y R2 H2 t2 s2 iy =>
    ⟨_, _, ok_dp s2.rg n d1 x o1 (ix.mono t2.ex), ok_dp s2.rg n d2 y o2 iy, ok_shaped o1 hn6, ok_shaped o2 hn6, _, rfl, kq R2 H2 (t1.trans t2) s2⟩)
theorem dt_neD (g : Gx X k) (ha : DE X a δ d1 δ1) (hb : DE X b δ1 d2 δ2) (o1 : okD n d1 = true) (o2 : okD n d2 = true) (hn6 : n ≤ 60 := by decide) : DT X (.Compare a [.NotEq] [b] pos) δ (!PyData.eqv (py d1) (py d2)) δ2 := fun F R H σ Q s kq =>
  (pt_cmpR (op_neD g.rm.units) peW peW (nomark _)).w (ha F R H σ _ s fun x R1 H1 t1 s1 ix => hb F R1 H1 σ _ s1 fun y R2 H2 t2 s2 iy =>
    ⟨_, _, ok_dp s2.rg n d1 x o1 (ix.mono t2.ex), ok_dp s2.rg n d2 y o2 iy, ok_shaped o1 hn6, ok_shaped o2 hn6, _, rfl, kq R2 H2 (t1.trans t2) s2⟩)
end
end Dy

/-! part Ly9 -/
namespace Dy
open PySem PySem.Spec PyProof.Rows L2
section
variable {P : Program} {w : World} {K : PySem.W.Frag} {mg mb : Str → Option Value} {k : Nat} {fa a : Addr} {t : Shared} {us : List Value} {ns : List Int} {C : List D → D → Prop}
/-- what stands of the heap where at most the script is told -/
structure Told (K : PySem.W.Frag) (P : Program) (w : World) (T : Hp) (t : Shared) (a : Addr) (us : List Value) (ns : List Int) : Prop where
  here : t.heap.get? a = some { cls := .type "list", data := .seq us.toArray }
  seq : SqL K T a (ns.map V.int)
  ok : HOk P w T t.heap
  one : ∀ b u, T b = some u → b = a ∧ K.lookup b = none ∧ ∃ o xs, u = HO.frz o (.lst xs)
theorem Told.mod (h : Told K P w T t a us ns) (KX : K.In t.heap) (g1 : t.heap.Ns mainGlobals mg) (g2 : t.heap.Ns builtinsNs mb) (g3 : ∀ x : Str, x ≠ "__name__" → mb x = bootBuiltins x) (g4 : t.heap.NoLimit) :
    Mod K mg (hidT t.heap T) ∧ K.In (hidT t.heap T) ∧ (hidT t.heap T).Ns mainGlobals mg := by
  have low : ∀ {b : Addr} {z : Obj} {es : Array DictEntry} {e : Nat}, t.heap.get? b = some z → z.data = .dict es e → (hidT t.heap T).get? b = some z := fun {b z es e} q d => hidT_get q (by
    rcases hT : T b with _ | u
    · rfl
    · obtain ⟨rfl, _⟩ := h.one b u hT
      rw [h.here] at q
      cases q
      cases (show Data.seq us.toArray _ = Data.dict es e from d))
  have nm : ∀ {b : Addr} {m : Str → Option Value}, t.heap.Ns b m → (hidT t.heap T).Ns b m := fun ⟨z, es, e, q, d, r⟩ => ⟨z, es, e, low q d, d, r⟩
  have KT : K.In (hidT t.heap T) := fun b z q => hidT_get (KX b z q) (by
    rcases hT : T b with _ | u
    · rfl
    · rw [(h.one b u hT).2.1] at q
      cases q)
  obtain ⟨mc, c1, c2⟩ := g4
  exact ⟨⟨KT, nm g1, ⟨mb, nm g2, g3⟩, mc, nm c1, c2⟩, KT, nm g1⟩
/-- the call from outside, where a pure promise over data is kept -/
theorem Told.call (h : Told K P w T t a us ns) (KX : K.In t.heap) (g1 : t.heap.Ns mainGlobals mg) (g2 : t.heap.Ns builtinsNs mb) (g3 : ∀ x : Str, x ≠ "__name__" → mb x = bootBuiltins x) (g4 : t.heap.NoLimit) (g5 : t.gens = #[]) (hr : Room k callerA)
    (F : ∀ B : Heap, K.In B → B.Ns mainGlobals mg → FnG P w K mg B CX0 k fa (spP K C)) (c : C [.rol (ns.map D.int)] (.bl true)) :
    codeAny (model P w) callerA (.call (.ref fa) (Args.mk [.ref a] [])) (fun r z => r = .ok (.ret (.bool true)) ∧ OldK t.heap z.heap ∧ z.os = t.os ∧ AllBare z.gens) t := by
  obtain ⟨m1, m2, m3⟩ := h.mod KX g1 g2 g3 g4
  have e0 : Env0 P w K mg (hidT t.heap T) callerA [] t T := { frames := rfl, mod := m1, bs := fun b z q => of_hidT q, bsz := Nat.le_of_eq (hidT_size _ _), funs := trivial, frf := fun b q => absurd (show b ∈ ([] : List Addr) from q) List.not_mem_nil, hok := h.ok, bare := .of_eq g5 }
  have S : spP K C [V.ref a] T (fun v _ => v = .bl true) (fun _ _ _ => False) := ⟨T, _, _, Same.refl T, .cons (.rol h.seq (isA_ints ns)) .nil, c, fun v R2 H2 _ _ _ iv => by cases iv; rfl⟩
  refine codeAny_mono (F _ m2 m3 callerA [] t T [.ref a] [.ref a] _ _ hr rfl e0 (.cons rfl .nil) S) fun r z q => ?_
  match r, q with
  | .error e, q => exact q.elim
  | .ok .next, q => exact q.elim
  | .ok .brk, q => exact q.elim
  | .ok .cont, q => exact q.elim
  | .ok (.ret u), ⟨v, H2, y1, y2, un, hok2, rv, y3⟩ =>
    have y3' : v = V.bl true := y3
    subst y3'
    cases rv
    refine ⟨rfl, OldK.of_keep fun b o ho => ?_, y1, y2⟩
    rcases hT : T b with _ | u
    · exact un.keep b o ho hT (fun q => absurd q List.not_mem_nil) List.not_mem_nil
    · obtain ⟨_, _, o2, xs, rfl⟩ := h.one b u hT
      have p1 := (h.ok b _ hT).1
      rw [ho] at p1
      cases p1
      exact (hok2 b _ (un.frzs b _ _ hT)).1
/-- either the script is one of the module's own objects, or nobody knows it -/
theorem told (KX : K.In t.heap) (here : t.heap.get? a = some { cls := .type "list", data := .seq us.toArray }) (hi : IntsAre us ns) (hl : ns.length ≤ sizeLine) : ∃ T, Told K P w T t a us ns := by
  have hv := vals_ints hi
  have hlen := hi.length
  rcases hK : K.lookup a with _ | o
  · refine ⟨upd (fun _ => none) a (.frz { cls := .type "list", data := .seq us.toArray } (.lst (ns.map V.int))), here, .inl (.inr ⟨_, upd_same⟩), fun b u q => ?_, fun b u q => ?_⟩
    · by_cases e : b = a
      · subst e
        rw [upd_same] at q
        cases q
        exact ⟨here, by rw [List.length_map]; exact hl, us, _, hv, here⟩
      · rw [upd_ne e] at q
        cases q
    · by_cases e : b = a
      · subst e
        rw [upd_same] at q
        cases q
        exact ⟨rfl, hK, _, _, rfl⟩
      · rw [upd_ne e] at q
        cases q
  · have p := KX a o hK
    rw [here] at p
    cases p
    refine ⟨fun _ => none, here, .inr ⟨_, us.toArray, _, hK, rfl, rfl, rfl, by rw [List.size_toArray, hlen]; exact hl, by simpa using hv⟩, fun b u q => ?_, fun b u q => ?_⟩
    · cases (show (none : Option HO) = some u from q)
    · cases (show (none : Option HO) = some u from q)
end
/-- the end: what k_head leaves, from the promise of the law's def over data -/
theorem walkG {l : PySem.W.OpenLaw} {n k : Nat} {q : Program} {loose : List Str} {XP : (Str → Option Value) → Heap → Prop} {YP : World → Heap → Prop} {d : DefRec} {K : Params → PySem.W.Frag} {C : List D → D → Prop}
    (h1 : l.most = some n) (h2 : n ≤ sizeLine) (h3 : d.params.defaults = []) (hr : Room k callerA) (hY : ∀ (w : World) (h : Heap), YP w h → (K w.params).In h)
    (F : ∀ (w : World) (mg : Str → Option Value) (fa : Addr) (h : Heap), (K w.params).In h → h.Ns mainGlobals mg → mg d.name = some (.ref fa) → ∀ B : Heap, (K w.params).In B → B.Ns mainGlobals mg → FnG l.prog w (K w.params) mg B CX0 k fa (spP (K w.params) C))
    (c : ∀ ns : List Int, ns.length ≤ n → C [.rol (ns.map D.int)] (.bl true)) : PySem.W.WalkO q loose XP YP l.row.toRowW d [] (fun f vs => PySem.call f vs) := by
  refine Att.attach_call h1 h3 fun w s₀ t mg mb fa o pm cd doc a us ns G Y _ _ _ hmg here hints hlen hg => ?_
  have KX := hY w _ Y
  obtain ⟨T, hT⟩ := told (P := l.prog) (w := w) KX here hints (Nat.le_trans hlen h2)
  exact hT.call KX G.T.g G.T.b G.T.builtins G.T.nolimit hg hr (F w mg fa _ KX G.T.g hmg) (c ns hlen)
end Dy

/-! part Ly10 -/
namespace Dy
open PySem PySem.Spec PyProof.Rows L2
/-! instances: what stands in them -/
theorem flds_look {K : PySem.W.Frag} {R : Hp} {f : Str} {d : D} : ∀ {fs : List (Str × V)} {ns : List Str} {ds : List D}, fs.map (·.1) = ns → IsA K R (fs.map (·.2)) ds → (ns.zip ds).lookup f = some d → ∃ v, fs.lookup f = some v ∧ Is K R v d
  | [], ns, ds, e, _, h => by
    cases e
    cases ds <;> cases h
  | (g, x) :: fs, ns, ds, e, ia, h => by
    cases e
    cases ia with
    | @cons _ _ dd ds' i1 i2 =>
      rw [List.map_cons, List.zip_cons_cons, List.lookup_cons] at h
      rw [List.lookup_cons]
      cases hq : f == g with
      | true =>
        rw [hq] at h
        cases h
        exact ⟨x, rfl, i1⟩
      | false =>
        rw [hq] at h
        exact flds_look rfl i2 h
section
variable {X : Cx} {e o : Expr} {δ δ1 δ2 : List Sl} {d : D} {ds : List D} {f : Str} {pos pos' : Pos} {C : Addr} {ns : List Str}
/-- e.f -/
theorem de_fld (c : Cls X.K C) (n : NoAttr X.K C f) (h : DE X e δ (.obj C ns ds) δ1) (hl : (ns.zip ds).lookup f = some d := by rfl) (hb : attributeBase e f X.env (eval e X.env) = eval e X.env := by rfl) : DE X (.Attribute e f pos) δ d δ1 := fun F R H σ Q s k =>
  (pe_fld peW hb).w (h F R H σ _ s fun v R1 H1 t1 s1 iv => by
    cases iv with
    | obj q e1 ia =>
      obtain ⟨v, hv, iv⟩ := flds_look e1 ia hl
      exact ⟨_, C, _, _, v, rfl, s1.rg _ _ q, c, n, hv, k v R1 H1 t1 s1 iv⟩)
end
/-! an instance that is being made: its __init__ -/
structure InOk (X : Cx) (p C dx : Addr) (F R H : Hp) (σ : L2.St) (δ : List Sl) (fs : List (Str × V)) (ns : List Str) (fds : List D) : Prop where
  st : StOk X.K F R H σ δ
  fp : F p = some (.ins C dx fs)
  rp : R p = none
  nm : fs.map (·.1) = ns
  ia : IsA X.K R (fs.map (·.2)) fds
abbrev PInit := Hp → Hp → Hp → List (Str × V) → Prop
/-- the statements of an __init__: from these attributes to an end -/
def IS (X : Cx) (p C dx : Addr) (sts : List Stmt) (δ : List Sl) (ns : List Str) (fds : List D) (Post : PInit) : Prop := ∀ (F R H : Hp) (σ : L2.St) (E : Ends) (fs : List (Str × V)), InOk X p C dx F R H σ δ fs ns fds →
  (∀ F' R' H' σ' fs', Post F' R' H' fs' → Tr F R R' → (∀ b o, b ≠ p → F b = some o → F' b = some o) → E.nx σ' H') → wSs X sts E σ H
/-- what every end says -/
structure InEnd (p C dx : Addr) (F R H : Hp) (fs : List (Str × V)) : Prop where
  fr : Same F H
  rg : Same R H
  fp : F p = some (.ins C dx fs)
  rp : R p = none
/-- the attributes are these data -/
def PData (K : PySem.W.Frag) (p C dx : Addr) (nsE : List Str) (fdsE : List D) : PInit := fun F R H fs => InEnd p C dx F R H fs ∧ fs.map (·.1) = nsE ∧ IsA K R (fs.map (·.2)) fdsE
/-- data, and at last a list of its own -/
def PList (K : PySem.W.Frag) (p C dx : Addr) (nsE : List Str) (fdsE : List D) (f : Str) (items : List D) : PInit := fun F R H fs => InEnd p C dx F R H fs ∧ ∃ fs0 q ys, fs = fs0 ++ [(f, V.ref q)] ∧ fs0.map (·.1) = nsE ∧ IsA K R (fs0.map (·.2)) fdsE ∧ F q = none ∧ R q = some (.lst ys) ∧ IsA K R ys items
theorem putF_new {f : Str} {v : V} : ∀ {fs : List (Str × V)}, f ∉ fs.map (·.1) → putF f v fs = fs ++ [(f, v)]
  | [], _ => rfl
  | (g, x) :: fs, h => by
    have h1 : ¬ g = f := fun e => h (by rw [List.map_cons, e]; exact List.mem_cons_self)
    show (if g = f then _ else (g, x) :: putF f v fs) = _
    rw [if_neg h1, putF_new fun z => h (by rw [List.map_cons]; exact List.mem_cons_of_mem _ z)]
    rfl
theorem Tr.over {F F1 R R1 R2 : Hp} (a : Tr F R R1) (e : ∀ b, F b ≠ none → F1 b ≠ none) (b : Tr F1 R1 R2) : Tr F R R2 := ⟨a.ex.trans b.ex, fun x h1 h2 => b.nw x (e x h1) (a.nw x h1 h2)⟩
section
variable {X : Cx} {p C dx : Addr} {st : Stmt} {sts : List Stmt} {δ δ1 δ2 : List Sl} {ns nsE : List Str} {fds fdsE items : List D} {f y : Str} {yp pos pos' : Pos} {value : Expr} {d : D} {Post : PInit}
theorem is_nil : IS X p C dx [] δ ns fds (PData X.K p C dx ns fds) := fun F R H σ E fs ok k => (pss_nil).w (k F R H σ fs ⟨⟨ok.st.fr, ok.st.rg, ok.fp, ok.rp⟩, ok.nm, ok.ia⟩ (Tr.refl _ _) fun _ _ _ h => h)
theorem is_ds (h : DS X st δ { nx := fun δ' => δ' = δ2 }) (r : IS X p C dx sts δ2 ns fds Post) : IS X p C dx (st :: sts) δ ns fds Post := fun F R H σ E fs ok k =>
  (pss_cons psW pssW).w (h F R H σ { E with nx := wSs X sts E } ok.st ⟨fun R' H' σ' δ' t s' q => by
    have q' : δ' = δ2 := q
    subst q'
    exact r F R' H' σ' E fs ⟨s', ok.fp, t.nw p (by rw [ok.fp]; exact fun z => by cases z) ok.rp, ok.nm, ok.ia.mono t.ex⟩ fun F2 R2 H2 σ2 fs2 ok2 t2 e2 => k F2 R2 H2 σ2 fs2 ok2 (t.trans t2) e2,
    fun _ _ _ _ _ _ _ _ _ z => False.elim z, fun _ _ _ _ _ _ _ _ _ _ _ _ _ _ z => False.elim z, fun _ _ _ _ _ _ z => False.elim z, fun _ _ _ _ _ _ z => False.elim z⟩)
/-- self.f = value, a new attribute -/
theorem is_fld (i : Nat) (c : Cls X.K C) (n : NoAttr X.K C f) (h : DE X value δ d δ1) (hi : δ1[i]? = some (.dat (.at_ p))) (r : IS X p C dx sts δ1 (ns ++ [f]) (fds ++ [d]) Post) (hz : ns.length < 1000) (hn : f ∉ ns) (hN : X.N[i]? = some y := by rfl)
    (hv : Vis X.env.scope y := by first | exact Or.inl rfl | exact Or.inr (Or.inl rfl) | exact Or.inr (Or.inr rfl)) (hyd : (y == ("__debug__" : Str)) = false := by decide) (hyc : (y == ("__classdict__" : Str)) = false := by decide)
    (hs : swapsWith value (some (.Attribute (.Name y yp) f pos')) pos.line X.env = pure false := by rfl) : IS X p C dx (.Assign [.Attribute (.Name y yp) f pos'] value pos :: sts) δ ns fds Post := fun F R H σ E fs ok k =>
  (pss_cons psW pssW).w ((ps_fld (pe_var hN hv hyd hyc) peW hs).w (h F R H σ _ ok.st fun v R1 H1 t1 s1 iv => by
    obtain ⟨w, hw, iw⟩ := s1.at_ i _ hi
    cases iw
    have hp1 : H1 p = some (.ins C dx fs) := s1.fr p _ ok.fp
    have rp1 : R1 p = none := t1.nw p (by rw [ok.fp]; exact fun z => by cases z) ok.rp
    have hnf : f ∉ fs.map (·.1) := by rw [ok.nm]; exact hn
    refine ⟨_, hw, p, C, dx, fs, rfl, hp1, c, n, by rw [← ok.nm, List.length_map] at hz; exact hz, ?_⟩
    rw [putF_new hnf]
    have st2 : StOk X.K (upd F p (.ins C dx (fs ++ [(f, v)]))) R1 (upd H1 p (.ins C dx (fs ++ [(f, v)]))) σ δ1 := by
      refine ⟨fun b o q => ?_, fun b o q => ?_, s1.ln, fun j x q => ?_, s1.ap, s1.ap2⟩
      · by_cases hb : b = p
        · subst hb
          rw [upd_same] at q ⊢
          exact q
        · rw [upd_ne hb] at q ⊢
          exact s1.fr b o q
      · rw [upd_ne (ne_of_none q rp1)]
        exact s1.rg b o q
      · have z := s1.at_ j x q
        match x, z with
        | .no, _ => trivial
        | .dat d, z => exact z
        | .own r as, z =>
          obtain ⟨z1, z2, z3, xs, z4, z5⟩ := z
          have hne : r ≠ p := fun e => by
            subst e
            rw [hp1] at z4
            cases z4
          exact ⟨z1, by rw [upd_ne hne]; exact z2, z3, xs, by rw [upd_ne hne]; exact z4, z5⟩
        | .odc hf r ks vs, z =>
          obtain ⟨z1, z2, z3, M, z4, z5⟩ := z
          have hne : r ≠ p := fun e => by
            subst e
            rw [hp1] at z4
            cases z4
          exact ⟨z1, by rw [upd_ne hne]; exact z2, z3, M, by rw [upd_ne hne]; exact z4, z5⟩
    refine r _ R1 _ σ E _ ⟨st2, upd_same, rp1, by rw [List.map_append, ok.nm]; rfl, by rw [List.map_append]; exact IsA.app (ok.ia.mono t1.ex) (.cons iv .nil)⟩ fun F2 R2 H2 σ2 fs2 ok2 t2 e2 => k F2 R2 H2 σ2 fs2 ok2 (t1.over (fun b hb => ?_) t2) fun b o hb q => e2 b o hb (by rw [upd_ne hb]; exact q)
    by_cases h2 : b = p
    · subst h2
      rw [upd_same]
      exact fun z => by cases z
    · rw [upd_ne h2]
      exact hb))
end
section
variable {X : Cx} {p C dx : Addr} {δ δ1 : List Sl} {ns : List Str} {fds items : List D} {f y : Str} {yp pos pos' : Pos} {value : Expr}
/-- at last: self.f = a new list -/
theorem is_last (i : Nat) (c : Cls X.K C) (n : NoAttr X.K C f) (h : DO X value δ items δ1) (hi : δ1[i]? = some (.dat (.at_ p))) (hz : ns.length < 1000) (hn : f ∉ ns) (hN : X.N[i]? = some y := by rfl)
    (hv : Vis X.env.scope y := by first | exact Or.inl rfl | exact Or.inr (Or.inl rfl) | exact Or.inr (Or.inr rfl)) (hyd : (y == ("__debug__" : Str)) = false := by decide) (hyc : (y == ("__classdict__" : Str)) = false := by decide)
    (hs : swapsWith value (some (.Attribute (.Name y yp) f pos')) pos.line X.env = pure false := by rfl) : IS X p C dx [.Assign [.Attribute (.Name y yp) f pos'] value pos] δ ns fds (PList X.K p C dx ns fds f items) := fun F R H σ E fs ok k =>
  (pss_cons psW pssW).w ((ps_fld (pe_var hN hv hyd hyc) peW hs).w (h F R H σ _ ok.st fun q xs R1 H1 t1 s1 hF hR hq ib no => by
    obtain ⟨w, hw, iw⟩ := s1.at_ i _ hi
    cases iw
    have hp1 : H1 p = some (.ins C dx fs) := s1.fr p _ ok.fp
    have rp1 : R1 p = none := t1.nw p (by rw [ok.fp]; exact fun z => by cases z) ok.rp
    have hnf : f ∉ fs.map (·.1) := by rw [ok.nm]; exact hn
    have hqp : q ≠ p := fun e => by
      subst e
      rw [ok.fp] at hF
      cases hF
    refine ⟨_, hw, p, C, dx, fs, rfl, hp1, c, n, by rw [← ok.nm, List.length_map] at hz; exact hz, ?_⟩
    rw [putF_new hnf]
    have mR : Same R1 (upd R1 q (.lst xs)) := fun b u e => by rw [upd_ne (ne_of_none e hR)]; exact e
    refine (pss_nil).w (k (upd F p (.ins C dx (fs ++ [(f, V.ref q)]))) (upd R1 q (.lst xs)) _ σ _ ⟨⟨fun b o e => ?_, fun b o e => ?_, upd_same, by rw [upd_ne hqp.symm]; exact rp1⟩, fs, q, xs, rfl, ok.nm, ok.ia.mono (t1.ex.trans mR), by rw [upd_ne hqp]; exact hF, upd_same, ib.mono mR⟩ ⟨t1.ex.trans mR, fun b h1 h2 => ?_⟩ fun b o hb e => by rw [upd_ne hb]; exact e)
    · by_cases hb : b = p
      · subst hb
        rw [upd_same] at e ⊢
        exact e
      · rw [upd_ne hb] at e ⊢
        exact s1.fr b o e
    · by_cases hb : b = q
      · subst hb
        rw [upd_same] at e
        cases e
        rw [upd_ne hqp]
        exact hq
      · rw [upd_ne hb] at e
        rw [upd_ne (ne_of_none e rp1)]
        exact s1.rg b o e
    · have hb : b ≠ q := fun e => h1 (e ▸ hF)
      rw [upd_ne hb]
      exact t1.nw b h1 h2))
end
/-- the contract of an __init__: from the arguments to the attributes -/
def spI (K : PySem.W.Frag) (C : Addr) (Cr : List D → List Str → List D → Prop) : Sp := fun vs H Q _ => ∃ R p dx vs' ds ns fds, vs = .ref p :: vs' ∧ H p = some (.ins C dx []) ∧ R p = none ∧ Same R H ∧ IsA K R vs' ds ∧ Cr ds ns fds ∧
  ∀ R2 H2 fs, Tr H R R2 → (∀ b o, b ≠ p → H b = some o → H2 b = some o) → Same R2 H2 → R2 p = none → H2 p = some (.ins C dx fs) → fs.map (·.1) = ns → IsA K R2 (fs.map (·.2)) fds → Q .non H2
section
variable {P : Program} {w : World} {K : PySem.W.Frag} {mg : Str → Option Value} {base : Heap} {k : Nat} {f : Addr}
theorem fn_init {x qual : Str} {st : Stmt} {fd : FuncData} {N ps : List Str} {C : Addr} {Cr : List D → List Str → List D → Prop} (F : Fun K x qual st f fd) (S : FnScope N ps (defScope st)) (hb : Binds K fd ps []) (hl : ∀ ds ns fds, Cr ds ns fds → ds.length + 1 = ps.length) (hN : ps.length ≤ N.length)
    (body : ∀ (cdv : Value) (A : Around) (outer : List Env) (s : Shared) (H : Hp) (E : XK) (p dx : Addr) (ds : List D) (ns : List Str) (fds : List D), Gx (BX P w K mg base N qual st f cdv A outer s H E) k → Cr ds ns fds →
      IS (BX P w K mg base N qual st f cdv A outer s H E) p C dx (defBody st) (dats (.at_ p :: ds) N.length) [] [] (PData K p C dx ns fds)) : FnG P w K mg base CX0 (k + 1) f (spI K C Cr) := by
  refine fng_plain F S hb (fun vs H Q E ⟨R, p, dx, vs', ds, ns, fds, e, _, _, _, ia, c, _⟩ => by rw [e, List.length_cons, ia.len, hl _ _ _ c]) fun cdv A outer s H vs Q E g ⟨R, p, dx, vs', ds, ns, fds, e, hp, hn, hR, ia, c, q⟩ => wSs_nox ?_
  subst e
  have st0 : StOk K H R H (start N (.ref p :: vs')) (dats (.at_ p :: ds) N.length) := start_ok hR (.cons (.at_ p) ia) (by rw [List.length_cons, hl _ _ _ c]; exact hN)
  refine body cdv A outer s H E p dx ds ns fds ⟨g.rm, g.gd⟩ c H R H _ _ [] ⟨st0, hp, hn, rfl, .nil⟩ fun F' R' H' σ' fs' ok t e2 => ?_
  exact q R' H' fs' t (fun b o hb ho => ok.1.fr b o (e2 b o hb ho)) ok.1.rg ok.1.rp (ok.1.fr p _ ok.1.fp) ok.2.1 ok.2.2
end
section
variable {X : Cx} {k : Nat} {f C : Addr} {x : Str} {e : Expr} {es : List Expr} {p pos : Pos} {δ δ1 : List Sl} {ds fds : List D} {ns : List Str}
/-- C(e, ..) by its __init__ -/
theorem de_make {Cr : List D → List Str → List D → Prop} (M : Mk X.K C f) (F : FnG X.prog X.w X.K X.mg X.base CX0 k f (spI X.K C Cr)) (g : Gx X (k + 1)) (hm : X.mg x = some (.ref C)) (h : DA X (e :: es) δ ds δ1) (c : Cr ds ns fds) (hg : Gl X x := by rfl) (hd : (x == ("__debug__" : Str)) = false := by decide)
    (hst : starEach (e :: es) X.env = (false, eval e X.env) :: starEach es X.env := by exact st_any rfl) (hpl : (backTo pos (starEach es X.env)).any (·.1) = false := by rfl) : DE X (.Call (.Name x p) (e :: es) [] pos) δ (.obj C ns fds) δ1 := fun F0 R H σ Q s k0 => by
  have pe : PE X (.Call (.Name x p) (e :: es) [] pos) (fun σ H Q => wA X (e :: es) σ H fun vs H1 => ∀ y dx, H1 y = none → H1 dx = none → dx ≠ y → spI X.K C Cr (V.ref y :: vs) (upd (upd H1 dx (.own y)) y (.ins C dx [])) (fun v H2 => v = .non ∧ Q (.ref y) H2) fun _ _ _ => False) := ⟨fun pins s σ H Q I h => by
    refine wpAny_Call_Name_kw (ld_glob I hg hm ?_ hd)
    refine PySem.W.callWith_K (h₀ := X.base) I.ok.mod.kin M.kp (thn (h.run pos pins s I) fun us s1 ⟨vs, H1, I1, r, q⟩ => ⟨I1.kIn, ?_⟩) hst hpl
    have hq := q (s1.heap.objs.size + 1) s1.heap.objs.size (I1.hok.fresh (Nat.le_succ _)) (I1.hok.fresh (Nat.le_refl _)) (Nat.ne_of_lt (Nat.lt_succ_self _))
    have I2 := Inv.made (C := C) I1
    have r2 : Vals (V.ref (s1.heap.objs.size + 1) :: vs) (Value.ref (s1.heap.objs.size + 1) :: us) := .cons rfl r
    refine wpAny_call (make_map (f := f) I1.kIn M.makes M.init (beq_iff_eq.mp M.fn) (codeAny_mono (F _ X.stack _ _ (Value.ref (s1.heap.objs.size + 1) :: us) _ _ _ (g.rm.make C us []) g.gd (I2.env0.make C us []) r2 hq) fun r s' hz => ?_))
    match r, hz with
    | .error e, hz => exact False.elim hz
    | .ok .next, hz => exact False.elim hz
    | .ok .brk, hz => exact False.elim hz
    | .ok .cont, hz => exact False.elim hz
    | .ok (.ret u), hz =>
      obtain ⟨v, H', I3, rv, ev, q3⟩ := I2.after hz
      subst ev
      exact ⟨rv, V.ref (s1.heap.objs.size + 1), H', I3, rfl, q3⟩⟩
  refine pe.w (h F0 R H σ _ s fun vs R1 H1 t1 s1 ia y dx hy hdx hne => ?_)
  have ry : R1 y = none := s1.rg.free hy
  have rdx : R1 dx = none := s1.rg.free hdx
  have fy : F0 y = none := s1.fr.free hy
  have fdx : F0 dx = none := s1.fr.free hdx
  have e1 : ∀ b o, H1 b = some o → upd (upd H1 dx (.own y)) y (.ins C dx []) b = some o := fun b o q => by
    rw [upd_ne (ne_of_none q hy), upd_ne (ne_of_none q hdx)]
    exact q
  refine ⟨R1, y, dx, vs, ds, ns, fds, rfl, upd_same, ry, fun b o q => e1 b o (s1.rg b o q), ia, c, fun R2 H2 fs t2 e2 r2 y2 h2 nm ib => ⟨rfl, ?_⟩⟩
  have keep : ∀ b o, H1 b = some o → H2 b = some o := fun b o q => e2 b o (ne_of_none q hy) (e1 b o q)
  have u2 : StOk X.K F0 R2 H2 σ δ1 := by
    refine ⟨fun b o q => keep b o (s1.fr b o q), r2, s1.ln, fun i x q => ?_, s1.ap, s1.ap2⟩
    have z := s1.at_ i x q
    match x, z, q with
    | .no, _, _ => trivial
    | .dat d, z, _ =>
      obtain ⟨v, ev, jv⟩ := z
      exact ⟨v, ev, jv.mono t2.ex⟩
    | .own r as, z, _ =>
      obtain ⟨z1, z2, z3, xs, z4, z5⟩ := z
      exact ⟨z1, z2, t2.nw r (by rw [e1 r _ z4]; exact fun w => by cases w) z3, xs, keep r _ z4, z5.mono t2.ex⟩
    | .odc hf r ks vs, z, _ =>
      obtain ⟨z1, z2, z3, M, z4, z5, z6, z7⟩ := z
      exact ⟨z1, z2, t2.nw r (by rw [e1 r _ z4]; exact fun w => by cases w) z3, M, keep r _ z4, z5.mono t2.ex, z6.mono t2.ex, z7⟩
  have no : ∀ (i : Nat) (es : List D), δ1[i]? ≠ some (.own y es) := fun i es z => by
    obtain ⟨_, _, _, xs, z4, _⟩ := s1.at_ i _ z
    rw [hy] at z4
    cases z4
  obtain ⟨u3, t3⟩ := u2.freeze h2 fy y2 no
  have t12 : Tr F0 R R2 := t1.trans (t2.low fun b o q => e1 b o (s1.fr b o q))
  exact k0 _ _ H2 (t12.trans t3) u3 (.obj upd_same nm (ib.mono t3.ex))
end
end Dy

/-! part Ly11 -/
namespace Dy
open PySem PySem.Spec PyProof.Rows L2
/-! a call's contract used where the state is told -/
section
variable {K : PySem.W.Frag} {F F0 R R1 R2 H1 H2 : Hp} {σ : L2.St} {δ1 : List Sl} {vs : List V} {ds : List D} {d : D}
theorem StOk.after (s1 : StOk K F0 R1 H1 σ δ1) (t2 : Tr H1 R1 R2) (e2 : Same H1 H2) (r2 : Same R2 H2) : StOk K F0 R2 H2 σ δ1 := by
  refine ⟨s1.fr.trans e2, r2, s1.ln, fun i x q => ?_, s1.ap, s1.ap2⟩
  have z := s1.at_ i x q
  match x, z, q with
  | .no, _, _ => trivial
  | .dat d, z, _ =>
    obtain ⟨v, ev, jv⟩ := z
    exact ⟨v, ev, jv.mono t2.ex⟩
  | .own r as, z, _ =>
    obtain ⟨z1, z2, z3, xs, z4, z5⟩ := z
    exact ⟨z1, z2, t2.nw r (by rw [z4]; exact fun w => by cases w) z3, xs, e2 r _ z4, z5.mono t2.ex⟩
  | .odc hf r ks vs, z, _ =>
    obtain ⟨z1, z2, z3, M, z4, z5, z6, z7⟩ := z
    exact ⟨z1, z2, t2.nw r (by rw [z4]; exact fun w => by cases w) z3, M, e2 r _ z4, z5.mono t2.ex, z6.mono t2.ex, z7⟩
theorem use_P {C : List D → D → Prop} {Q : VK} {E : XK} (s1 : StOk K F0 R1 H1 σ δ1) (ia : IsA K R1 vs ds) (c : C ds d) (k : ∀ v R2 H2, Tr F0 R1 R2 → StOk K F0 R2 H2 σ δ1 → Is K R2 v d → Q v H2) : spP K C vs H1 Q E :=
  ⟨R1, ds, d, s1.rg, ia, c, fun v R2 H2 t2 e2 r2 iv => k v R2 H2 (t2.low s1.fr) (s1.after t2 e2 r2) iv⟩
theorem use_O {C : List D → List D → Prop} {gs : List D} {Q : VK} {E : XK} (s1 : StOk K F0 R1 H1 σ δ1) (ia : IsA K R1 vs ds) (c : C ds gs)
    (k : ∀ p xs R2 H2, Tr F0 R1 R2 → StOk K F0 R2 H2 σ δ1 → F0 p = none → R2 p = none → H2 p = some (.lst xs) → IsA K R2 xs gs → (∀ (i : Nat) (es : List D), δ1[i]? ≠ some (.own p es)) → Q (.ref p) H2) : spO K C vs H1 Q E :=
  ⟨R1, ds, gs, s1.rg, ia, c, fun q xs R2 H2 t2 e2 r2 hq hR2 hq2 iv => k q xs R2 H2 (t2.low s1.fr) (s1.after t2 e2 r2) (s1.fr.free hq) hR2 hq2 iv fun i as z => by
    obtain ⟨_, _, _, ys, z4, _⟩ := s1.at_ i _ z
    rw [hq] at z4
    cases z4⟩
end
/-! own defs called by the machine -/
theorem rel_ref (a : Addr) : RelV (V.ref a) (Value.ref a) := rfl
abbrev noX : XK := fun _ _ _ => False
section
variable {X : Cx} {k : Nat} {f : Addr} {sp : Sp} {pins : List (Addr × Obj)} {σ : L2.St} {H : Hp} {s : Shared} {Q : VK} {us : List Value} {vs : List V}
theorem run_in1 {E' : Value → Shared → Prop} (F : FnG X.prog X.w X.K X.mg X.base CX0 k f sp) (g : Gx X (k + 1)) (I : L2.Inv X pins σ H s) (r : Vals vs us) (h : sp vs H Q noX) : wpAny (model X.prog X.w) X.A.in1 (call (.ref f) us) (EP X pins σ Q) E' s := by
  refine wpAny_call (codeAny_mono (F X.A.in1 X.stack s H us vs Q noX g.rm.in1 g.gd I.env0.in1 r h) fun r s' hq => ?_)
  match r, hq with
  | .error e, hq => exact False.elim hq
  | .ok (.ret u), hq => exact I.after hq
  | .ok .next, hq => exact False.elim hq
  | .ok .brk, hq => exact False.elim hq
  | .ok .cont, hq => exact False.elim hq
theorem run_at {E' : Value → Shared → Prop} (F : FnG X.prog X.w X.K X.mg X.base CX0 k f sp) (g : Gx X k) (I : L2.Inv X pins σ H s) (r : Vals vs us) (h : sp vs H Q noX) : wpAny (model X.prog X.w) X.A (call (.ref f) us) (EP X pins σ Q) E' s := by
  refine wpAny_call (codeAny_mono (F X.A X.stack s H us vs Q noX g.rm g.gd I.env0 r h) fun r s' hq => ?_)
  match r, hq with
  | .error e, hq => exact False.elim hq
  | .ok (.ret u), hq => exact I.after hq
  | .ok .next, hq => exact False.elim hq
  | .ok .brk, hq => exact False.elim hq
  | .ok .cont, hq => exact False.elim hq
end
/-- the class's def under that name -/
structure Spc (K : PySem.W.Frag) (C : Addr) (m : Str) (f : Addr) : Prop where
  at_ : PySem.W.findIn K (.ref C) m = some (some (.ref f))
  fn : PySem.W.isFn K (.ref f) = true
section
variable {X : Cx} {k : Nat} {f C p g' : Addr} {sp : Sp} {e : Expr} {pos : Pos} {m : Str}
theorem pe_propG (c : Cls X.K C) (hp : PropOf X.K C m p g') (F : FnG X.prog X.w X.K X.mg X.base CX0 k g' sp) (g : Gx X (k + 1)) (hab : attributeBase e m X.env (eval e X.env) = eval e X.env) :
    PE X (.Attribute e m pos) (fun σ H Q => wE X e σ H fun x H1 => ∃ a dx fs, x = .ref a ∧ H1 a = some (.ins C dx fs) ∧ sp [.ref a] H1 Q noX) := ⟨fun pins s σ H Q I h => by
  refine attr_of hab (thn (h.run pins s I) fun u s1 ⟨x, H1, I1, rx, a, dx, fs, ex, ea, q⟩ => ?_)
  subst ex
  obtain rfl : u = Value.ref a := rx
  obtain ⟨mA, O, _⟩ := ins_get I1.hok ea
  obtain ⟨od, J, _⟩ := O.look
  obtain ⟨rest, hrec⟩ := hp.rec_
  have I2 := I1.tok (s1.toks + 1)
  have hc : (PySem.W.clsIn X.K C).isSome = true := by
    obtain ⟨cd, hc, _⟩ := PySem.W.any_some c.hd
    rw [hc]
    rfl
  refine PySem.W.get_bind I1.kIn J (PySem.W.plainGet_of (c.get m)).1 (PySem.W.findObj_data hc hp.at_ hp.get hp.tak) (PySem.W.plainGet_of (c.get m)).2 (wpAny_call (PySem.W.prop_get (s := { s1 with toks := s1.toks + 1 }) I1.kIn hrec ?_))
  refine codeAny_mono (F X.A.in1 X.stack { s1 with toks := s1.toks + 1 } H1 [.ref a] [.ref a] Q noX g.rm.in1 g.gd I2.env0.in1 (.cons rfl .nil) q) fun r s' hq => ?_
  match r, hq with
  | .error e, hq => exact False.elim hq
  | .ok .next, hq => exact False.elim hq
  | .ok .brk, hq => exact False.elim hq
  | .ok .cont, hq => exact False.elim hq
  | .ok (.ret u), hq =>
    obtain ⟨v, H', I3, rv, q3⟩ := I2.after hq
    show wpAny _ _ (handedOut u) _ _ _
    rw [PySem.W.handedOut_of (handed_of rv)]
    exact wpAny_pure ⟨v, H', I3, rv, q3⟩⟩
/-- x in o, o an instance with its own __contains__ -/
theorem op_inG (h : Spc X.K C "__contains__" f) (F : FnG X.prog X.w X.K X.mg X.base CX0 k f sp) (g : Gx X k) : OpR X (compareOp .In) (fun x y H Q => ∃ a dx fs, y = .ref a ∧ H a = some (.ins C dx fs) ∧ sp [.ref a, x] H (fun z H' => ∃ b, z = .bl b ∧ Q (.bl b) H') noX) := by
  intro pins s σ H x y v u Q I rx ry ⟨a, dx, fs, e1, ea, q⟩
  subst e1
  cases (show u = Value.ref a from ry)
  obtain ⟨mA, O, _⟩ := ins_get I.hok ea
  obtain ⟨od, J, _⟩ := O.look
  obtain ⟨mm, hF⟩ := I.fr
  refine PySem.W.in_K hF I.ok.mod.kin J h.at_ h.fn (wpAny_mono (run_at F g I (.cons (rel_ref a) (.cons rx .nil)) q) (fun r s' z => ?_) fun _ _ x => x)
  obtain ⟨z, H', I', rz, b, e, qz⟩ := z
  subst e
  cases rz
  exact wpAny_truthy_bool ⟨.bl b, H', I', (rfl : RelV (.bl b) (.bool b)), qz⟩
/-- o == y, o an instance with its own __eq__ -/
theorem op_eqG {t : V → Hp → Value → Prop} (ht : ∀ x H u, t x H u → TyX X.K H x u) (h : Spc X.K C "__eq__" f) (F : FnG X.prog X.w X.K X.mg X.base CX0 k f sp) (g : Gx X k) : OpR X (compareOp .Eq) (fun x y H Q => ∃ a dx fs tb, x = .ref a ∧ H a = some (.ins C dx fs) ∧ t y H tb ∧ PySem.W.notFirst X.K C tb = true ∧ sp [.ref a, y] H Q noX) := by
  intro pins s σ H x y v u Q I rx ry ⟨a, dx, fs, tb, e1, ea, ty, hn, q⟩
  subst e1
  cases (show v = Value.ref a from rx)
  obtain ⟨mA, O, _⟩ := ins_get I.hok ea
  obtain ⟨od, J, _⟩ := O.look
  obtain ⟨mm, hF⟩ := I.fr
  obtain ⟨Pz, Z, pz, _⟩ := kit_of I ry (ht _ _ _ ty)
  refine PySem.W.cmp_ofEq (PySem.W.cmp_K (op := .Eq) g.rm.units0 hF I.ok.mod.kin J (Z.ty _ _ I.kIn pz) hn h.at_ h.fn (wpAny_mono (run_at F g I (.cons (rel_ref a) (.cons ry .nil)) q) (fun r s' z => ?_) fun _ _ x => x))
  obtain ⟨z, H', I', rz, qz⟩ := z
  exact SlX.cmpback rz ⟨z, H', I', rz, qz⟩
/-- len(o), o an instance with its own __len__ -/
theorem call_lenG (h : Spc X.K C "__len__" f) (F : FnG X.prog X.w X.K X.mg X.base CX0 k f sp) (g : Gx X (k + 1)) : CallR X (.builtin "len") (fun xs H Q => ∃ a dx fs, xs = [.ref a] ∧ H a = some (.ins C dx fs) ∧ sp [.ref a] H (fun z H' => ∃ n : Nat, z = .int n ∧ n < 2 ^ 63 ∧ Q (.int n) H') noX) := by
  intro pins s σ H xs us Q I r ⟨a, dx, fs, e1, ea, q⟩
  subst e1
  obtain ⟨u, rfl, ru⟩ := vals1 r
  cases (show u = Value.ref a from ru)
  obtain ⟨mA, O, _⟩ := ins_get I.hok ea
  obtain ⟨od, J, _⟩ := O.look
  obtain ⟨mm, hF⟩ := I.fr
  refine PySem.W.len_K hF I.ok.mod.kin J h.at_ h.fn (wpAny_mono (run_in1 F g I (.cons (rel_ref a) .nil) q) (fun r s' z => ?_) fun _ _ x => x)
  obtain ⟨z, H', I', rz, n, e, hn, qz⟩ := z
  subst e
  obtain ⟨t, rfl⟩ := rz
  exact ⟨⟨by omega, by omega⟩, .int n, H', I'.tok _, ⟨_, rfl⟩, qz⟩
/-- o op y of two instances of the class -/
theorem op_binG {op : Operator} (h : Spc X.K C (PySem.dunder op.info.2) f) (hs : PySem.W.selfFirst X.K C = true) (F : FnG X.prog X.w X.K X.mg X.base CX0 k f sp) (g : Gx X k) : OpR X (binaryOp op) (fun x y H Q => ∃ a dx fs b dy gs, x = .ref a ∧ H a = some (.ins C dx fs) ∧ y = .ref b ∧ H b = some (.ins C dy gs) ∧ sp [.ref a, .ref b] H Q noX) := by
  intro pins s σ H x y v u Q I rx ry ⟨a, dx, fs, b, dy, gs, e1, ea, e2, eb, q⟩
  subst e1 e2
  cases (show v = Value.ref a from rx)
  cases (show u = Value.ref b from ry)
  obtain ⟨mA, O, _⟩ := ins_get I.hok ea
  obtain ⟨od, J, _⟩ := O.look
  obtain ⟨mB, O2, _⟩ := ins_get I.hok eb
  obtain ⟨od2, J2, _⟩ := O2.look
  obtain ⟨mm, hF⟩ := I.fr
  refine PySem.W.binop_K hF I.ok.mod.kin J J2.type hs h.at_ h.fn (wpAny_mono (run_at F g I (.cons (rel_ref a) (.cons (rel_ref b) .nil)) q) (fun r s' z => ?_) fun _ _ x => x)
  obtain ⟨z, H', I', rz, qz⟩ := z
  exact SlX.cmpback rz ⟨z, H', I', rz, qz⟩
end
end Dy

/-! part Ly12 -/
namespace Dy
open PySem PySem.Spec PyProof.Rows L2
/-- what isinstance and type() ask of an own class -/
structure Own (K : PySem.W.Frag) (C : Addr) : Prop where
  cl : Cls K C
  ha : PySem.W.findIn K (.ref C) "__class__" = some (some (.builtin "object.__class__"))
  hn : PySem.W.specialIn K (.builtin "object.__class__") "__get__" = some (some (.builtin "getset_descriptor.__get__"))
  htk : PySem.W.takesIn K (.builtin "object.__class__") = some true
  hm : PySem.W.mroIn K C (.type "object") = some true
  ck : ((PySem.W.clsIn K C).isSome && PySem.W.typeIn K (.ref C) == some (.type "type")) = true
def isT : Value → Bool
  | .type _ => true
  | _ => false
def onlyT (T : String) : Bool := match fastBuiltinMro T with
  | some l => l.all isT
  | none => false
theorem sub_blt {K : PySem.W.Frag} {C : Addr} {T : String} (h : onlyT T = true) : PySem.W.subIn K (.type T) (.ref C) = some false := by
  unfold onlyT at h
  show (fastBuiltinMro T).map (·.contains (.ref C)) = some false
  cases hm : fastBuiltinMro T with
  | none => rw [hm] at h; cases h
  | some l =>
    rw [hm] at h
    refine congrArg some ?_
    cases hc : l.contains (.ref C) with
    | false => exact hc
    | true =>
      have z := List.all_eq_true.mp h (.ref C) (by simpa using hc)
      cases z
theorem only_tyD {d : D} {t : String} (h : tyD d = some t) : onlyT t = true := by
  cases d <;> cases h <;> decide +kernel
/-- the type of a datum -/
inductive TyD (K : PySem.W.Frag) : D → Value → Prop
  | base {d : D} {t : String} (h : tyD d = some t) : TyD K d (.type t)
  | obj {C : Addr} {ns : List Str} {ds : List D} (O : Own K C) : TyD K (.obj C ns ds) (.ref C)
theorem is_TyD {K : PySem.W.Frag} {R H : Hp} {v : V} {d : D} {t : Value} (e : Same R H) (h : Is K R v d) (ht : TyD K d t) : TyX K H v t := by
  cases ht with
  | base ht => exact is_ty e h ht
  | obj O =>
    cases h with
    | obj q _ _ => exact .base (.ins (e _ _ q) O.cl O.ha O.hn O.htk O.hm)
theorem TyD.nf {K : PySem.W.Frag} {C : Addr} {d : D} {t : Value} (h : TyD K d t) (hc : ∀ C' ns ds, d = .obj C' ns ds → C' = C) : PySem.W.notFirst K C t = true := by
  unfold PySem.W.notFirst
  cases h with
  | base h => rw [sub_blt (only_tyD h)]; simp
  | obj O => rw [hc _ _ _ rfl]; simp
section
variable {X : Cx} {k : Nat} {f C pa g' : Addr} {e a b : Expr} {p pos cp : Pos} {δ δ1 δ2 : List Sl} {d d1 d2 : D} {ds es gs : List D} {ns ns2 : List Str} {m : Str} {cn : Str}
/-! isinstance with an own class -/
theorem de_isX {c : V} {u t : Value} {r : Bool} (hm : X.mg "isinstance" = none) (hc : PE X (.Name cn cp) (tC c)) (hv : ClsV c u) (h : DE X a δ d δ1) (ht : TyD X.K d t) (hk : PySem.W.kitOne X.K t u = some r) (hg : Gl X "isinstance" := by rfl)
    (he : starEach [a, .Name cn cp] X.env = (false, eval a X.env) :: starEach [.Name cn cp] X.env := by exact st_any rfl) (he2 : starEach [.Name cn cp] X.env = (false, eval (.Name cn cp) X.env) :: starEach [] X.env := by exact st_any rfl) (hpl : (backTo pos (starEach [.Name cn cp] X.env)).any (·.1) = false := by rfl) :
    DE X (.Call (.Name "isinstance" p) [a, .Name cn cp] [] pos) δ (.bl r) δ1 := fun F R H σ Q s k =>
  (pe_callB call_isi hg hm PyProof.Rows.boot_isinstance (pa_cons peW (pa_cons hc pa_nil he2) he) (by decide) (by decide) he hpl).w (h F R H σ _ s fun v R1 H1 t1 s1 iv =>
    ⟨v, c, t, u, r, rfl, hv, is_TyD s1.rg iv ht, hk, k _ R1 H1 t1 s1 (.bl _)⟩)
theorem kit_no {K : PySem.W.Frag} {t : String} (O : Own K C) (h : onlyT t = true) : PySem.W.kitOne K (.type t) (.ref C) = some false := by
  unfold PySem.W.kitOne
  rw [if_neg (by simp)]
  unfold PySem.W.kitCls
  dsimp only
  rw [if_pos O.ck]
  exact sub_blt h
theorem kit_me {K : PySem.W.Frag} : PySem.W.kitOne K (.ref C) (.ref C) = some true := by
  unfold PySem.W.kitOne
  rw [if_pos (by simp)]
/-- isinstance(e, C): no -/
theorem de_isN {t : String} (O : Own X.K C) (hm : X.mg "isinstance" = none) (hmc : X.mg cn = some (.ref C)) (h : DE X a δ d δ1) (ht : tyD d = some t) (hg : Gl X "isinstance" := by rfl) (hgc : Gl X cn := by rfl) (hdb : (cn == ("__debug__" : Str)) = false := by decide)
    (he : starEach [a, .Name cn cp] X.env = (false, eval a X.env) :: starEach [.Name cn cp] X.env := by exact st_any rfl) (he2 : starEach [.Name cn cp] X.env = (false, eval (.Name cn cp) X.env) :: starEach [] X.env := by exact st_any rfl) (hpl : (backTo pos (starEach [.Name cn cp] X.env)).any (·.1) = false := by rfl) :
    DE X (.Call (.Name "isinstance" p) [a, .Name cn cp] [] pos) δ (.bl false) δ1 :=
  de_isX hm (pe_glob (v := .ref C) hgc hmc rfl hdb) (.own C) h (.base ht) (kit_no O (only_tyD ht)) hg he he2 hpl
/-- isinstance(o, C): yes -/
theorem de_isY (O : Own X.K C) (hm : X.mg "isinstance" = none) (hmc : X.mg cn = some (.ref C)) (h : DE X a δ (.obj C ns ds) δ1) (hg : Gl X "isinstance" := by rfl) (hgc : Gl X cn := by rfl) (hdb : (cn == ("__debug__" : Str)) = false := by decide)
    (he : starEach [a, .Name cn cp] X.env = (false, eval a X.env) :: starEach [.Name cn cp] X.env := by exact st_any rfl) (he2 : starEach [.Name cn cp] X.env = (false, eval (.Name cn cp) X.env) :: starEach [] X.env := by exact st_any rfl) (hpl : (backTo pos (starEach [.Name cn cp] X.env)).any (·.1) = false := by rfl) :
    DE X (.Call (.Name "isinstance" p) [a, .Name cn cp] [] pos) δ (.bl true) δ1 :=
  de_isX hm (pe_glob (v := .ref C) hgc hmc rfl hdb) (.own C) h (.obj O) kit_me hg he he2 hpl
/-- isinstance(o, T), T built in -/
theorem de_isB {u : String} {r : Bool} (O : Own X.K C) (hm : X.mg "isinstance" = none) (hmc : X.mg cn = none) (hv : bootBuiltins cn = some (.type u)) (h : DE X a δ (.obj C ns ds) δ1) (hk : PySem.W.kitOne X.K (.ref C) (.type u) = some r) (hg : Gl X "isinstance" := by rfl) (hgc : Gl X cn := by rfl) (hn : cn ≠ "__name__" := by decide)
    (hdb : (cn == ("__debug__" : Str)) = false := by decide) (he : starEach [a, .Name cn cp] X.env = (false, eval a X.env) :: starEach [.Name cn cp] X.env := by exact st_any rfl) (he2 : starEach [.Name cn cp] X.env = (false, eval (.Name cn cp) X.env) :: starEach [] X.env := by exact st_any rfl) (hpl : (backTo pos (starEach [.Name cn cp] X.env)).any (·.1) = false := by rfl) :
    DE X (.Call (.Name "isinstance" p) [a, .Name cn cp] [] pos) δ (.bl r) δ1 :=
  de_isX hm (pe_bltn (v := .ty u) hgc hmc hv rfl hn hdb) (.ty u) h (.obj O) hk hg he he2 hpl
/-! properties -/
theorem de_prop {Cc : List D → D → Prop} (c : Cls X.K C) (hp : PropOf X.K C m pa g') (F : FnG X.prog X.w X.K X.mg X.base CX0 k g' (spP X.K Cc)) (g : Gx X (k + 1)) (h : DE X e δ (.obj C ns ds) δ1) (cc : Cc [.obj C ns ds] d) (hab : attributeBase e m X.env (eval e X.env) = eval e X.env := by rfl) :
    DE X (.Attribute e m pos) δ d δ1 := fun F0 R H σ Q s k0 =>
  (pe_propG c hp F g hab).w (h F0 R H σ _ s fun v R1 H1 t1 s1 iv => by
    cases iv with
    | obj q e1 ia => exact ⟨_, _, _, rfl, s1.rg _ _ q, use_P s1 (.cons (.obj q e1 ia) .nil) cc fun v R2 H2 t2 s2 iv => k0 v R2 H2 (t1.trans t2) s2 iv⟩)
theorem do_prop {Cc : List D → List D → Prop} (c : Cls X.K C) (hp : PropOf X.K C m pa g') (F : FnG X.prog X.w X.K X.mg X.base CX0 k g' (spO X.K Cc)) (g : Gx X (k + 1)) (h : DE X e δ (.obj C ns ds) δ1) (cc : Cc [.obj C ns ds] gs) (hab : attributeBase e m X.env (eval e X.env) = eval e X.env := by rfl) :
    DO X (.Attribute e m pos) δ gs δ1 := fun F0 R H σ Q s k0 =>
  (pe_propG c hp F g hab).w (h F0 R H σ _ s fun v R1 H1 t1 s1 iv => by
    cases iv with
    | obj q e1 ia => exact ⟨_, _, _, rfl, s1.rg _ _ q, use_O s1 (.cons (.obj q e1 ia) .nil) cc fun p xs R2 H2 t2 s2 hF hR hp2 ib no => k0 p xs R2 H2 (t1.trans t2) s2 hF hR hp2 ib no⟩)
/-! x in o -/
theorem de_inO {r : Bool} {Cc : List D → D → Prop} (h : Spc X.K C "__contains__" f) (F : FnG X.prog X.w X.K X.mg X.base CX0 k f (spP X.K Cc)) (g : Gx X k) (ha : DE X a δ d δ1) (hb : DE X b δ1 (.obj C ns ds) δ2) (cc : Cc [.obj C ns ds, d] (.bl r)) (hmk : behindInMarks .In b = false) :
    DE X (.Compare a [.In] [b] pos) δ (.bl r) δ2 := fun F0 R H σ Q s k0 =>
  (pe_cmpR (op_inG h F g) peW peW hmk).w (ha F0 R H σ _ s fun x R1 H1 t1 s1 ix => hb F0 R1 H1 σ _ s1 fun y R2 H2 t2 s2 iy => by
    cases iy with
    | obj q e1 ia => exact ⟨_, _, _, rfl, s2.rg _ _ q, use_P s2 (.cons (.obj q e1 ia) (.cons (ix.mono t2.ex) .nil)) cc fun v R3 H3 t3 s3 iv => by
        cases iv
        exact ⟨r, rfl, k0 _ R3 H3 ((t1.trans t2).trans t3) s3 (.bl _)⟩⟩)
theorem dt_inO {r : Bool} {Cc : List D → D → Prop} (h : Spc X.K C "__contains__" f) (F : FnG X.prog X.w X.K X.mg X.base CX0 k f (spP X.K Cc)) (g : Gx X k) (ha : DE X a δ d δ1) (hb : DE X b δ1 (.obj C ns ds) δ2) (cc : Cc [.obj C ns ds, d] (.bl r)) (hmk : behindInMarks .In b = false) :
    DT X (.Compare a [.In] [b] pos) δ r δ2 := fun F0 R H σ Q s k0 =>
  (pt_cmpR (op_inG h F g) peW peW hmk).w (ha F0 R H σ _ s fun x R1 H1 t1 s1 ix => hb F0 R1 H1 σ _ s1 fun y R2 H2 t2 s2 iy => by
    cases iy with
    | obj q e1 ia => exact ⟨_, _, _, rfl, s2.rg _ _ q, use_P s2 (.cons (.obj q e1 ia) (.cons (ix.mono t2.ex) .nil)) cc fun v R3 H3 t3 s3 iv => by
        cases iv
        exact ⟨r, rfl, r, rfl, k0 R3 H3 ((t1.trans t2).trans t3) s3⟩⟩)
/-! o == e -/
abbrev tyAt (K : PySem.W.Frag) : V → Hp → Value → Prop := fun x H u => TyX K H x u
theorem de_eqO {r : Bool} {t : Value} {Cc : List D → D → Prop} (h : Spc X.K C "__eq__" f) (F : FnG X.prog X.w X.K X.mg X.base CX0 k f (spP X.K Cc)) (g : Gx X k) (ha : DE X a δ (.obj C ns ds) δ1) (hb : DE X b δ1 d δ2) (ht : TyD X.K d t) (hc : ∀ C' ns ds, d = .obj C' ns ds → C' = C) (cc : Cc [.obj C ns ds, d] (.bl r)) :
    DE X (.Compare a [.Eq] [b] pos) δ (.bl r) δ2 := fun F0 R H σ Q s k0 =>
  (pe_cmpR (op_eqG (t := tyAt X.K) (fun _ _ _ z => z) h F g) peW peW (nomark _)).w (ha F0 R H σ _ s fun x R1 H1 t1 s1 ix => hb F0 R1 H1 σ _ s1 fun y R2 H2 t2 s2 iy => by
    have ix2 := ix.mono t2.ex
    cases ix2 with
    | obj q e1 ia => exact ⟨_, _, _, t, rfl, s2.rg _ _ q, is_TyD s2.rg iy ht, ht.nf hc, use_P s2 (.cons (.obj q e1 ia) (.cons iy .nil)) cc fun v R3 H3 t3 s3 iv => by
        cases iv
        exact k0 _ R3 H3 ((t1.trans t2).trans t3) s3 (.bl _)⟩)
theorem dt_eqO {r : Bool} {t : Value} {Cc : List D → D → Prop} (h : Spc X.K C "__eq__" f) (F : FnG X.prog X.w X.K X.mg X.base CX0 k f (spP X.K Cc)) (g : Gx X k) (ha : DE X a δ (.obj C ns ds) δ1) (hb : DE X b δ1 d δ2) (ht : TyD X.K d t) (hc : ∀ C' ns ds, d = .obj C' ns ds → C' = C) (cc : Cc [.obj C ns ds, d] (.bl r)) :
    DT X (.Compare a [.Eq] [b] pos) δ r δ2 := fun F0 R H σ Q s k0 =>
  (pt_cmpR (op_eqG (t := tyAt X.K) (fun _ _ _ z => z) h F g) peW peW (nomark _)).w (ha F0 R H σ _ s fun x R1 H1 t1 s1 ix => hb F0 R1 H1 σ _ s1 fun y R2 H2 t2 s2 iy => by
    have ix2 := ix.mono t2.ex
    cases ix2 with
    | obj q e1 ia => exact ⟨_, _, _, t, rfl, s2.rg _ _ q, is_TyD s2.rg iy ht, ht.nf hc, use_P s2 (.cons (.obj q e1 ia) (.cons iy .nil)) cc fun v R3 H3 t3 s3 iv => by
        cases iv
        exact ⟨r, rfl, k0 R3 H3 ((t1.trans t2).trans t3) s3⟩⟩)
/-! len(o) -/
theorem de_lenO {n : Nat} {Cc : List D → D → Prop} (h : Spc X.K C "__len__" f) (F : FnG X.prog X.w X.K X.mg X.base CX0 k f (spP X.K Cc)) (g : Gx X (k + 1)) (hm : X.mg "len" = none) (ha : DE X a δ (.obj C ns ds) δ1) (cc : Cc [.obj C ns ds] (.int n)) (hn : n < 2 ^ 63) (hg : Gl X "len" := by rfl)
    (he : starEach [a] X.env = (false, eval a X.env) :: starEach [] X.env := by exact st_any rfl) (hpl : (backTo pos (starEach [] X.env)).any (·.1) = false := by rfl) : DE X (.Call (.Name "len" p) [a] [] pos) δ (.int n) δ1 := fun F0 R H σ Q s k0 =>
  (pe_callB (call_lenG h F g) hg hm PySem.boot_len paW (by decide) (by decide) he hpl).w ((da_one ha he) F0 R H σ _ s fun vs R1 H1 t1 s1 ia => by
    cases ia with
    | cons i1 i2 =>
      cases i2
      cases i1 with
      | obj q e1 ib => exact ⟨_, _, _, rfl, s1.rg _ _ q, use_P s1 (.cons (.obj q e1 ib) .nil) cc fun v R3 H3 t3 s3 iv => by
          cases iv
          exact ⟨n, rfl, hn, k0 _ R3 H3 (t1.trans t3) s3 (.int _)⟩⟩)
/-! o | o, o & o -/
theorem de_binO {op : Operator} {Cc : List D → D → Prop} (h : Spc X.K C (PySem.dunder op.info.2) f) (hs : PySem.W.selfFirst X.K C = true) (F : FnG X.prog X.w X.K X.mg X.base CX0 k f (spP X.K Cc)) (g : Gx X k) (ha : DE X a δ (.obj C ns ds) δ1) (hb : DE X b δ1 (.obj C ns2 es) δ2) (cc : Cc [.obj C ns ds, .obj C ns2 es] d) :
    DE X (.BinOp a op b pos) δ d δ2 := fun F0 R H σ Q s k0 =>
  (pe_op (op_binG h hs F g) peW peW).w (ha F0 R H σ _ s fun x R1 H1 t1 s1 ix => hb F0 R1 H1 σ _ s1 fun y R2 H2 t2 s2 iy => by
    have ix2 := ix.mono t2.ex
    cases ix2 with
    | obj q e1 ia =>
      cases iy with
      | obj q2 e2 ib => exact ⟨_, _, _, _, _, _, rfl, s2.rg _ _ q, rfl, s2.rg _ _ q2, use_P s2 (.cons (.obj q e1 ia) (.cons (.obj q2 e2 ib) .nil)) cc fun v R3 H3 t3 s3 iv => k0 _ R3 H3 ((t1.trans t2).trans t3) s3 iv⟩)
end
end Dy

/-! part Ly13 -/
namespace Dy
open PySem PySem.Spec PyProof.Rows L2
/-! lists of ints in the order of tuples -/
def lexLt : List Int → List Int → Bool
  | a :: r, b :: q => decide (a < b) || (decide (a = b) && lexLt r q)
  | _, _ => false
theorem lex_asym : ∀ {a b : List Int}, lexLt a b = true → lexLt b a = true → False
  | [], _, h, _ => by cases h
  | _ :: _, [], h, _ => by cases h
  | a :: r, b :: q, h1, h2 => by
    simp only [lexLt, Bool.or_eq_true, Bool.and_eq_true, decide_eq_true_eq] at h1 h2
    rcases h1 with h1 | ⟨h1, g1⟩
    · rcases h2 with h2 | ⟨h2, g2⟩ <;> omega
    · rcases h2 with h2 | ⟨h2, g2⟩
      · omega
      · exact lex_asym g1 g2
theorem lex_trans : ∀ {a b c : List Int}, lexLt a b = true → lexLt b c = true → lexLt a c = true
  | [], _, _, h, _ => by cases h
  | _ :: _, [], _, h, _ => by cases h
  | _ :: _, _ :: _, [], _, h => by cases h
  | a :: r, b :: q, c :: s, h1, h2 => by
    simp only [lexLt, Bool.or_eq_true, Bool.and_eq_true, decide_eq_true_eq] at h1 h2 ⊢
    rcases h1 with h1 | ⟨h1, g1⟩
    · rcases h2 with h2 | ⟨h2, g2⟩ <;> exact .inl (by omega)
    · rcases h2 with h2 | ⟨h2, g2⟩
      · exact .inl (by omega)
      · exact .inr ⟨by omega, lex_trans g1 g2⟩
theorem lex_tot : ∀ {a b : List Int}, a.length = b.length → a ≠ b → lexLt a b = false → lexLt b a = true
  | [], [], _, h, _ => absurd rfl h
  | a :: r, b :: q, hl, hne, h => by
    simp only [lexLt, Bool.or_eq_false_iff, Bool.and_eq_false_imp, decide_eq_false_iff_not, decide_eq_true_eq] at h
    simp only [lexLt, Bool.or_eq_true, Bool.and_eq_true, decide_eq_true_eq]
    by_cases e : a = b
    · subst e
      exact .inr ⟨rfl, lex_tot (by simpa using hl) (fun z => hne (by rw [z])) (h.2 rfl)⟩
    · exact .inl (by have := h.1; omega)
theorem code_lex {B : Int} : ∀ {a b : List Int}, a.length = b.length → TS.Bd B a → TS.Bd B b → (TS.code B a < TS.code B b ↔ lexLt a b = true)
  | [], [], _, _, _ => by simp [lexLt]
  | a :: r, b :: q, hl, h1, h2 => by
    have hl' : r.length = q.length := by simpa using hl
    simp only [lexLt, Bool.or_eq_true, Bool.and_eq_true, decide_eq_true_eq]
    by_cases e : a = b
    · subst e
      rw [TS.code_same hl', code_lex hl' h1.tail h2.tail]
      constructor
      · exact fun z => .inr ⟨rfl, z⟩
      · rintro (z | ⟨_, z⟩)
        · omega
        · exact z
    · by_cases l : a < b
      · exact ⟨fun _ => .inl l, fun _ => TS.code_lt hl' h1.tail h2.tail l⟩
      · have g : TS.code B (b :: q) < TS.code B (a :: r) := TS.code_lt hl'.symm h2.tail h1.tail (by omega)
        constructor
        · intro z; omega
        · rintro (z | ⟨z, _⟩)
          · exact absurd z l
          · exact absurd z e
/-- into its place, once -/
def insT (t : List Int) : List (List Int) → List (List Int)
  | [] => [t]
  | u :: r => if t = u then u :: r else if lexLt t u then t :: u :: r else u :: insT t r
def tsort (ts : List (List Int)) : List (List Int) := ts.foldr insT []
theorem mem_insT {t x : List Int} : ∀ {l : List (List Int)}, x ∈ insT t l ↔ x = t ∨ x ∈ l
  | [] => by simp [insT]
  | u :: r => by
    unfold insT
    split
    · rename_i h
      subst h
      simp
    · split
      · simp
      · rw [List.mem_cons, mem_insT, List.mem_cons]
        constructor
        · rintro (h | h | h)
          · exact .inr (.inl h)
          · exact .inl h
          · exact .inr (.inr h)
        · rintro (h | h | h)
          · exact .inr (.inl h)
          · exact .inl h
          · exact .inr (.inr h)
theorem mem_tsort {x : List Int} : ∀ {ts : List (List Int)}, x ∈ tsort ts ↔ x ∈ ts
  | [] => by simp [tsort]
  | t :: ts => by
    show x ∈ insT t (tsort ts) ↔ _
    rw [mem_insT, mem_tsort, List.mem_cons]
abbrev LexL (a b : List Int) : Prop := lexLt a b = true
theorem insT_pw {t : List Int} {m : Nat} (ht : t.length = m) : ∀ {l : List (List Int)}, (∀ u ∈ l, u.length = m) → l.Pairwise LexL → (insT t l).Pairwise LexL
  | [], _, _ => List.pairwise_singleton _ _
  | u :: r, hm, h => by
    have hu := hm u List.mem_cons_self
    obtain ⟨h1, h2⟩ := List.pairwise_cons.mp h
    unfold insT
    split
    · exact h
    · rename_i hne
      split
      · rename_i hlt
        exact List.pairwise_cons.mpr ⟨fun x hx => by
          rcases List.mem_cons.mp hx with e | hx
          · rw [e]; exact hlt
          · exact lex_trans hlt (h1 x hx), h⟩
      · rename_i hnl
        refine List.pairwise_cons.mpr ⟨fun x hx => ?_, insT_pw ht (fun v hv => hm v (List.mem_cons_of_mem _ hv)) h2⟩
        rcases mem_insT.mp hx with e | hx
        · rw [e]
          exact lex_tot (by rw [ht, hu]) hne (by simpa using hnl)
        · exact h1 x hx
theorem tsort_pw {m : Nat} : ∀ {ts : List (List Int)}, (∀ u ∈ ts, u.length = m) → (tsort ts).Pairwise LexL
  | [], _ => List.Pairwise.nil
  | t :: ts, h => insT_pw (h t List.mem_cons_self) (fun u hu => h u (List.mem_cons_of_mem _ (mem_tsort.mp hu))) (tsort_pw fun u hu => h u (List.mem_cons_of_mem _ hu))
theorem insT_len {t : List Int} : ∀ l : List (List Int), (insT t l).length ≤ l.length + 1
  | [] => Nat.le_refl _
  | u :: r => by
    unfold insT
    split
    · exact Nat.le_succ _
    · split
      · exact Nat.le_refl _
      · exact Nat.succ_le_succ (insT_len r)
theorem tsort_len : ∀ ts : List (List Int), (tsort ts).length ≤ ts.length
  | [] => Nat.le_refl _
  | t :: ts => Nat.le_trans (insT_len (tsort ts)) (Nat.succ_le_succ (tsort_len ts))
theorem pw_unique {α : Type} {r : α → α → Prop} (as : ∀ a b, r a b → r b a → False) : ∀ {xs ys : List α}, xs.Pairwise r → ys.Pairwise r → (∀ k, k ∈ xs ↔ k ∈ ys) → xs = ys
  | [], [], _, _, _ => rfl
  | [], y :: ys, _, _, h => absurd ((h y).mpr List.mem_cons_self) List.not_mem_nil
  | x :: xs, [], _, _, h => absurd ((h x).mp List.mem_cons_self) List.not_mem_nil
  | x :: xs, y :: ys, h1, h2, h => by
    obtain ⟨a1, a2⟩ := List.pairwise_cons.mp h1
    obtain ⟨b1, b2⟩ := List.pairwise_cons.mp h2
    have e : x = y := by
      rcases List.mem_cons.mp ((h x).mp List.mem_cons_self) with e | hx
      · exact e
      · rcases List.mem_cons.mp ((h y).mpr List.mem_cons_self) with e | hy
        · exact e.symm
        · exact (as _ _ (b1 x hx) (a1 y hy)).elim
    subst e
    refine congrArg (x :: ·) (pw_unique as a2 b2 fun k => ?_)
    constructor
    · intro hk
      rcases List.mem_cons.mp ((h k).mp (List.mem_cons_of_mem _ hk)) with e | hy
      · subst e
        exact (as _ _ (a1 k hk) (a1 k hk)).elim
      · exact hy
    · intro hk
      rcases List.mem_cons.mp ((h k).mpr (List.mem_cons_of_mem _ hk)) with e | hy
      · subst e
        exact (as _ _ (b1 k hk) (b1 k hk)).elim
      · exact hy
/-- what sorting leaves is tsort -/
theorem sorted_is {B : Int} {m : Nat} {ts ls : List (List Int)} (hm : ∀ t ∈ ts, t.length = m ∧ TS.Bd B t) (hmem : ∀ k, k ∈ ls ↔ k ∈ ts) (nd : ls.Nodup) (pw : ls.Pairwise fun a b => TS.code B a ≤ TS.code B b) : ls = tsort ts := by
  refine pw_unique (fun _ _ => lex_asym) ?_ (tsort_pw (m := m) fun u hu => (hm u hu).1) fun k => by rw [hmem, mem_tsort]
  have both : ls.Pairwise fun a b => TS.code B a ≤ TS.code B b ∧ a ≠ b := List.pairwise_and_iff.mpr ⟨pw, nd⟩
  refine List.Pairwise.imp_of_mem (fun {a b} ha hb h => ?_) both
  obtain ⟨la, ba⟩ := hm a ((hmem a).mp ha)
  obtain ⟨lb, bb⟩ := hm b ((hmem b).mp hb)
  cases hq : lexLt a b with
  | true => rfl
  | false =>
    have z := (code_lex (by rw [la, lb]) bb ba).mpr (lex_tot (by rw [la, lb]) h.2 hq)
    have := h.1
    omega
end Dy

/-! part Ly14 -/
namespace Dy
open PySem PySem.Spec PyProof.Rows L2
theorem pairs_of {K : PySem.W.Frag} {R : Hp} : ∀ {vs : List V} {ts : List (List Int)}, IsA K R vs (ts.map tI) → ∃ ks : List (Addr × List Int), vs = ks.map (fun p => V.ref p.1) ∧ ks.map (·.2) = ts ∧ ∀ p ∈ ks, SqT K R p.1 (p.2.map V.int)
  | _, [], h => by
    cases h
    exact ⟨[], rfl, rfl, fun p hp => absurd hp List.not_mem_nil⟩
  | _, t :: ts, h => by
    cases h with
    | cons a b =>
      obtain ⟨ks, e1, e2, e3⟩ := pairs_of b
      cases a with
      | @tup l xs _ q ia =>
        refine ⟨(l, t) :: ks, by rw [e1]; rfl, by rw [List.map_cons, e2], fun p hp => ?_⟩
        rcases List.mem_cons.mp hp with e | hp
        · rw [e]
          show SqT K R l (t.map V.int)
          rw [← ia.ints]
          exact q
        · exact e3 p hp
theorem isA_pairs {K : PySem.W.Frag} {R : Hp} : ∀ {ks : List (Addr × List Int)}, (∀ p ∈ ks, SqT K R p.1 (p.2.map V.int)) → IsA K R (ks.map fun p => V.ref p.1) ((ks.map (·.2)).map tI)
  | [], _ => .nil
  | p :: ks, h => .cons (.tup (h p List.mem_cons_self) (isA_ints _)) (isA_pairs fun q hq => h q (List.mem_cons_of_mem _ hq))
section
variable {X : Cx} {a : Expr} {p p2 q pos : Pos} {δ δ1 : List Sl}
/-- sorted(set(xs)), xs a list of tuples of ints -/
theorem do_sortSetT {ts : List (List Int)} {m : Nat} {B : Int} (hm : X.mg "sorted" = none) (hm2 : X.mg "set" = none) (hu : X.A.units + 64 < cLine) (h : DE X a δ (.lst (ts.map tI)) δ1) (hl : ts.length < 64) (h1 : 1 ≤ m) (hB : ∀ t ∈ ts, t.length = m ∧ TS.Bd B t) (hc : X.calm = true := by rfl) (hg : Gl X "sorted" := by rfl) (hg2 : Gl X "set" := by rfl)
    (na : starEach [a] X.env = (false, eval a X.env) :: starEach [] X.env := by exact st_any rfl) (na2 : starEach [.Call (.Name "set" p2) [a] [] q] X.env = (false, eval (.Call (.Name "set" p2) [a] [] q) X.env) :: starEach [] X.env := by rfl) (hpl : (backTo q (starEach [] X.env)).any (·.1) = false := by rfl) (hpl2 : (backTo pos (starEach [] X.env)).any (·.1) = false := by rfl) :
    DO X (.Call (.Name "sorted" p) [.Call (.Name "set" p2) [a] [] q] [] pos) δ ((tsort ts).map tI) δ1 := fun F R H σ Q s k =>
  (pe_callB (cr_sortedT hc) hg hm PyProof.Rows.boot_sorted (pa_cons (pe_callTy (cr_setOfT hc hu) hg2 hm2 PyProof.Rows.boot_set paW (by decide) (by decide) na hpl) pa_nil na2) (by decide) (by decide) na2 hpl2).w ((da_one h na) F R H σ _ s fun vs R1 H1 t1 s1 ia => by
    cases ia with
    | cons i1 i2 =>
      cases i2
      cases i1 with
      | @lst l xs _ qa ib =>
        obtain ⟨ks, rfl, e2, e3⟩ := pairs_of ib
        have hk : ∀ p ∈ ks, SqT X.K H1 p.1 (p.2.map V.int) := fun p hp => same_sqT s1.rg (e3 p hp)
        have hlen : ks.length = ts.length := by rw [← e2, List.length_map]
        refine ⟨l, ks, rfl, SqL.of (s1.rg _ _ qa), hk, by rw [hlen]; exact hl, fun b L hb sub sup => ?_⟩
        have s2 := s1.off (o := SetTO X.prog X.w b L) hb
        have hkL : ∀ p ∈ L, p ∈ ks := sub
        have hall : ∀ p ∈ L, p.2.length = m ∧ TS.Bd B p.2 := fun p hp => hB p.2 (by rw [← e2]; exact List.mem_map_of_mem (hkL p hp))
        refine ⟨b, L, m, B, rfl, upd_same, fun p hp => same_sqT s2.rg (e3 p (hkL p hp)), h1, hall, fun L' r pm nd hf pw hr => ?_⟩
        have hmem : ∀ k', k' ∈ L'.map (·.2) ↔ k' ∈ ts := fun k' => by
          rw [(pm.map (·.2)).mem_iff, ← e2]
          constructor
          · intro z
            obtain ⟨p, hp, rfl⟩ := List.mem_map.mp z
            exact List.mem_map_of_mem (hkL p hp)
          · intro z
            obtain ⟨p, hp, rfl⟩ := List.mem_map.mp z
            exact sup p hp
        have es : L'.map (·.2) = tsort ts := sorted_is (m := m) (B := B) hB hmem nd (by rw [List.pairwise_map]; exact pw)
        have i3 : IsA X.K R1 (L'.map fun q => V.ref q.1) ((tsort ts).map tI) := by
          rw [← es]
          exact isA_pairs fun p hp => e3 p (hkL p (pm.mem_iff.mp hp))
        exact k r _ R1 _ t1 (s2.off hr) (s2.fr.free hr) (s2.rg.free hr) upd_same i3 fun i es z => by
          obtain ⟨_, _, _, ys, hy, _⟩ := s2.at_ i _ z
          rw [hr] at hy
          cases hy)
end
end Dy

/-! part Ly15 -/
namespace Dy
open PySem PySem.Spec PyProof.Rows L2
theorem tuple_mulOne (l : Addr) (items : Array Value) (n : Nat) (dd : Option Addr) (sl : Array (Option Value)) (u : Tok) :
    Meets (Builtin.«tuple.__mul__» ⟨[.ref l, .int 1 u], []⟩) (fun _ R s => s.heap.get? l = some { cls := .type "tuple", dict := dd, data := .seq items n, slots := sl } ∧ R (.ok (.ret (Value.ref l))) s) :=
  .of_wp fun prog w A R s h => by
    obtain ⟨hp, g, d, tk, os⟩ := s
    obtain ⟨hl, h⟩ := h
    have f1 := AutoSeq1.idx_int
    have c0 : (decide ((1 : Int) < -(2 ^ 63)) || decide ((1 : Int) ≥ 2 ^ 63)) = false := by decide
    have c1 : (items.isEmpty || ((1 : Int) == 1)) = true := by rw [show ((1 : Int) == 1) = true from rfl, Bool.or_true]
    wp_walk using wpAny_loadPart' hl
    repeat (first
      | (refine wpAny_ite_false (decide_eq_false (by rw [c0]; exact Bool.false_ne_true)) ?_; wp_walk using wpAny_loadPart' hl)
      | (refine wpAny_ite_true (decide_eq_true c1) ?_; wp_walk using wpAny_loadPart' hl))
    exact ⟨_, rfl, h⟩
def rRep1 (K : PySem.W.Frag) : R2 := fun x y H Q => ∃ l xs, x = .ref l ∧ y = .int 1 ∧ SqT K H l xs ∧ Q (.ref l) H
theorem op_rep1 {X : Cx} : OpR X (binaryOp .Mult) (rRep1 X.K) := by
  intro pins s σ H x y v u Q I rx ry ⟨l, xs, e1, e2, hT, q⟩
  subst e1 e2
  cases (show v = Value.ref l from rx)
  obtain ⟨t, rfl⟩ := ry
  obtain ⟨its, r, ⟨⟨cls, dd, data, sl⟩, ho, hc, n, hd⟩, hs⟩ := I.tuple hT
  simp only at hc hd
  subst hc hd
  exact wpAny_binaryOp_repeat_ref (T := "tuple") (U := "int") (by decide) ⟨_, ho, rfl⟩ (fun s' => typeIs_int s' 1 t) noFill_tuple_mul F.fills_int_mul F.slot_int_rmul repeat_tuple F.slot_int_index.lookup
    (call_meets F.slot_int_rmul (typeIs_int s 1 t) F.entry_int_rmul (F.args_int_rmul_2 _ _) (int_rmul_tuple 1 t l its.toArray n dd sl)
      ⟨ho, rfl, ⟨_, ho, rfl⟩, call_meets F.slot_tuple_mul ⟨_, ho, rfl⟩ F.entry_tuple_mul (F.args_tuple_mul_2 _ _) (tuple_mulOne l its.toArray n dd sl t) ⟨ho, .ref l, H, I, rfl, q⟩⟩)
end Dy

/-! part Ly16 -/
namespace Dy
open PySem PySem.Spec PyProof.Rows L2
section
variable {X : Cx} {a b : Expr} {p pos : Pos} {δ δ1 δ2 δ3 : List Sl} {ds gs : List D}
theorem cut_whole {ds : List D} {l h : Option Int} (e : HT.sIx ds.length 0 l = 0 ∧ HT.sIx ds.length ds.length h = ds.length) : Dy.cutD ds l h = ds := by
  unfold Dy.cutD
  rw [e.1, e.2]
  exact List.take_length
/-- t[lo:hi] -/
theorem de_slT {lo hi : Option Expr} {l h : Option Int} {p2 : Pos} (ha : DE X a δ (.tup ds) δ1) (hl : DP X lo δ1 l δ2) (hh : DP X hi δ2 h δ3) : DE X (.Subscript a (.Slice lo hi none p2) pos) δ (.tup (Dy.cutD ds l h)) δ3 := fun F R H σ Q s k =>
  (pe_slice sl_tupA peW poW poW).w (ha F R H σ _ s fun x R1 H1 t1 s1 ix => hl F R1 H1 σ _ s1 fun R2 H2 t2 s2 => hh F R2 H2 σ _ s2 fun R3 H3 t3 s3 => by
    cases ix with
    | tup q ia =>
      have q3 := same_sqT (t2.trans t3).ex q
      have ia3 := ia.mono (t2.trans t3).ex
      refine ⟨_, _, rfl, same_sqT s3.rg q3, fun e => ?_, fun _ p hp => ?_⟩
      · rw [ia.len] at e
        exact k _ R3 H3 ((t1.trans t2).trans t3) s3 (by rw [cut_whole e]; exact .tup q3 ia3)
      · obtain ⟨s4, t4⟩ := s3.new (o := .tup (cutV _ l h)) hp
        exact k _ _ _ (((t1.trans t2).trans t3).trans t4) s4 (.tup (.inl (.inl upd_same)) ((ia3.cut l h).mono t4.ex)))
/-- t + u -/
theorem de_addT (ha : DE X a δ (.tup ds) δ1) (hb : DE X b δ1 (.tup gs) δ2) (hz : ds.length + gs.length ≤ 1000000) : DE X (.BinOp a .Add b pos) δ (.tup (ds ++ gs)) δ2 := fun F R H σ Q s k =>
  (pe_op op_catA peW peW).w (ha F R H σ _ s fun x R1 H1 t1 s1 ix => hb F R1 H1 σ _ s1 fun z R2 H2 t2 s2 iz => by
    cases ix with
    | tup q ia =>
      cases iz with
      | tup q2 ia2 =>
        have q' := same_sqT t2.ex q
        have ia' := ia.mono t2.ex
        refine ⟨_, _, _, _, rfl, rfl, same_sqT s2.rg q', same_sqT s2.rg q2, by rw [ia.len, ia2.len, sizeLine_eq]; omega, fun e => ?_, fun _ e => ?_, fun _ _ p hp => ?_⟩
        · subst e
          cases ia
          exact k _ R2 H2 (t1.trans t2) s2 (.tup q2 ia2)
        · subst e
          cases ia2
          exact k _ R2 H2 (t1.trans t2) s2 (by rw [List.append_nil]; exact .tup q' ia')
        · obtain ⟨s4, t4⟩ := s2.new (o := .tup (_ ++ _)) hp
          exact k _ _ _ ((t1.trans t2).trans t4) s4 (.tup (.inl (.inl upd_same)) ((ia'.app ia2).mono t4.ex)))
theorem IsA.rep {K : PySem.W.Frag} {R : Hp} {vs : List V} {ds : List D} (h : IsA K R vs ds) : ∀ n : Nat, IsA K R (List.replicate n vs).flatten (List.replicate n ds).flatten
  | 0 => .nil
  | n + 1 => by
    rw [List.replicate_succ, List.replicate_succ, List.flatten_cons, List.flatten_cons]
    exact h.app (IsA.rep h n)
/-- t * n, n at least 1 -/
theorem de_mulT {n : Nat} (ha : DE X a δ (.tup ds) δ1) (hb : DE X b δ1 (.int n) δ2) (hne : ds ≠ []) (h1 : 1 ≤ n) (h2 : n ≤ 1000) (hz : ds.length ≤ 1000) : DE X (.BinOp a .Mult b pos) δ (.tup (List.replicate n ds).flatten) δ2 := by
  by_cases e : n = 1
  · subst e
    refine fun F R H σ Q s k => (pe_op op_rep1 peW peW).w (ha F R H σ _ s fun x R1 H1 t1 s1 ix => hb F R1 H1 σ _ s1 fun z R2 H2 t2 s2 iz => ?_)
    cases ix with
    | tup q ia =>
      cases iz
      refine ⟨_, _, rfl, rfl, same_sqT s2.rg (same_sqT t2.ex q), k _ R2 H2 (t1.trans t2) s2 ?_⟩
      rw [show (List.replicate 1 ds).flatten = ds by simp]
      exact .tup (same_sqT t2.ex q) (ia.mono t2.ex)
  · refine fun F R H σ Q s k => (pe_op op_repT peW peW).w (ha F R H σ _ s fun x R1 H1 t1 s1 ix => hb F R1 H1 σ _ s1 fun z R2 H2 t2 s2 iz => ?_)
    cases ix with
    | tup q ia =>
      cases iz
      refine ⟨_, n, _, rfl, rfl, same_sqT s2.rg (same_sqT t2.ex q), fun z => hne ?_, by omega, by omega, by rw [ia.len]; exact hz, fun p hp => ?_⟩
      · have := ia.len
        rw [z] at this
        exact List.eq_nil_of_length_eq_zero this.symm
      · obtain ⟨s4, t4⟩ := s2.new (o := .tup (List.replicate (n : Int).toNat _).flatten) hp
        refine k _ _ _ ((t1.trans t2).trans t4) s4 (.tup (.inl (.inl upd_same)) ?_)
        rw [Int.toNat_natCast]
        exact ((ia.mono t2.ex).rep n).mono t4.ex
/-- [..] * n -/
theorem do_mulL {n : Nat} (ha : DE X a δ (.lst ds) δ1) (hb : DE X b δ1 (.int n) δ2) (hz : ds.length * n ≤ 1000000) (hn : n ≤ 1000000) : DO X (.BinOp a .Mult b pos) δ (List.replicate n ds).flatten δ2 := fun F R H σ Q s k =>
  (pe_op op_rep peW peW).w (ha F R H σ _ s fun x R1 H1 t1 s1 ix => hb F R1 H1 σ _ s1 fun z R2 H2 t2 s2 iz => by
    cases ix with
    | lst q ia =>
      cases iz
      refine ⟨_, n, _, rfl, rfl, s2.rg _ _ (t2.ex _ _ q), by omega, by omega, by rw [ia.len, Int.toNat_natCast, sizeLine_eq]; omega, fun p hp => k p _ R2 _ (t1.trans t2) (s2.off hp) (s2.fr.free hp) (s2.rg.free hp) upd_same (by rw [Int.toNat_natCast]; exact (ia.mono t2.ex).rep n) fun i es q => ?_⟩
      obtain ⟨_, _, _, ys, hy, _⟩ := s2.at_ i _ q
      rw [hp] at hy
      cases hy)
theorem IsA.rev {K : PySem.W.Frag} {R : Hp} : ∀ {vs : List V} {ds : List D}, IsA K R vs ds → IsA K R vs.reverse ds.reverse
  | _, _, .nil => .nil
  | _, _, .cons h t => by
    rw [List.reverse_cons, List.reverse_cons]
    exact (IsA.rev t).app (.cons h .nil)
/-- l[::-1] -/
theorem do_rev {j : Nat} {p1 p2 p3 : Pos} (ha : DE X a δ (.lst ds) δ1) : DO X (.Subscript a (.Slice none none (some (.UnaryOp .USub (.Constant (.int 1) j p1) p2)) p3) pos) δ ds.reverse δ1 := fun F R H σ Q s k =>
  (pe_revL peW).w (ha F R H σ _ s fun x R1 H1 t1 s1 ix => by
    cases ix with
    | lst q ia =>
      refine ⟨_, _, rfl, SqL.of (s1.rg _ _ q), fun p hp => k p _ R1 _ t1 (s1.off hp) (s1.fr.free hp) (s1.rg.free hp) upd_same ia.rev fun i es q => ?_⟩
      obtain ⟨_, _, _, ys, hy, _⟩ := s1.at_ i _ q
      rw [hp] at hy
      cases hy)
/-- {} -/
theorem de_emp : DE X (.Dict [] [] pos) δ .emp δ := fun F R H σ Q s k => (pe_dnewK).w fun p hp => by
  obtain ⟨s4, t4⟩ := s.new (o := .dK []) hp
  exact k _ _ _ t4 s4 (.emp upd_same)
/-- int(bool) -/
theorem de_intb {m : Bool} (hm : X.mg "int" = none) (h : DE X a δ (.bl m) δ1) (hg : Gl X "int" := by rfl) (he : starEach [a] X.env = (false, eval a X.env) :: starEach [] X.env := by exact st_any rfl) (hpl : (backTo pos (starEach [] X.env)).any (·.1) = false := by rfl) : DE X (.Call (.Name "int" p) [a] [] pos) δ (.int (if m then 1 else 0)) δ1 := fun F R H σ Q s k =>
  (pe_callTy call_int1 hg hm PyProof.Rows.boot_int paW (by decide) (by decide) he hpl).w ((da_one h he) F R H σ _ s fun vs R1 H1 t1 s1 ia => by
    cases ia with
    | cons i1 i2 =>
      cases i2
      cases i1
      exact .inr ⟨m, rfl, k _ R1 H1 t1 s1 (.int _)⟩)
end
end Dy

/-! part Ly17 -/
namespace Dz
open PySem PySem.Spec PyProof.Rows L2 PySem.W
section
variable {prog : Program} {w : World} {M : Model} {A : Around} {E : Value → Shared → Prop} {s : Shared} {K : PySem.W.Frag} {x C f : Addr} {ox : Obj} {od : Option Obj} {b tb : Value}
theorem ifBound_ne {args : List Value} {Q : Option Value → Shared → Prop} (X : K.In s.heap) (I : PySem.W.InstAt s.heap x ox C od) (hs : PySem.W.findIn K (.ref C) "__ne__" = some (some (.builtin "object.__ne__")))
    (h : wpAny M A (call (.builtin "object.__ne__") (.ref x :: args)) (fun v => Q (some v)) E s) : wpAny M A (callSpecialIfBound? (.ref x) "__ne__" args) Q E s := by
  simp only [callSpecialIfBound?, bindSpecialIfBound?]
  refine wpAny_holding (wpAny_bind (wpAny_bind (wpAny_bind (I.type.here ((PySem.W.looks_findIn X hs).here ?_)))))
  refine wpAny_bind (wpAny_askSetting (wpAny_ite ?_))
  have last : wpAny M A (call (.builtin "object.__ne__") ([.ref x] ++ args) >>= fun v => pure (some v)) Q E s := wpAny_bind (wpAny_mono h (fun v s' h' => wpAny_pure h') fun _ _ h' => h')
  split
  · exact wpAny_bind (wpAny_of_eq (PySem.F.cmp_object.ne.bind _) (wpAny_pure (by exact last)))
  · exact wpAny_tryCatch (wpAny_bind (wpAny_of_eq (PySem.F.cmp_object.ne.bind _) (wpAny_pure (by exact last))))
theorem entry_ne {Q : Fin → Shared → Prop} (hu : A.units < cLine) (X : K.In s.heap) (I : PySem.W.InstAt s.heap x ox C od) (hs : PySem.W.findIn K (.ref C) "__eq__" = some (some (.ref f))) (hf : PySem.W.isFn K (.ref f) = true)
    (h : wpAny M A (call (.ref f) [.ref x, b]) (fun v s' => ∃ r, v = .bool r ∧ Q (.done (.ret (.bool (!r)))) s') E s) : wpAny M A (Builtin.«object.__ne__» ⟨[.ref x, b], []⟩) Q E s := by
  unfold Builtin.«object.__ne__»
  refine wpAny_bind (m := slotArgs "__ne__" 1 _) (wpAny_pure ?_)
  dsimp only
  refine wpAny_bind (wpAny_cRoomFor hu ?_)
  refine wpAny_bind (PySem.W.ifBound_K X I hs hf (wpAny_mono h (fun v s' z => ?_) fun _ _ y => y))
  obtain ⟨r, rfl, q⟩ := z
  refine wpAny_bind (wpAny_truthy_bool ?_)
  exact wpAny_pure q
theorem ne_own {Q : Value → Shared → Prop} (hu : A.units < cLine) (hu1 : A.in1.units < cLine) (X : K.In s.heap) (I : PySem.W.InstAt s.heap x ox C od) (hm : PySem.W.mroIn K C (.type "object") = some true) (hb : Looks (model prog w) s.heap (typeOf b) tb) (hn : PySem.W.notFirst K C tb = true)
    (h1 : PySem.W.findIn K (.ref C) "__ne__" = some (some (.builtin "object.__ne__"))) (hs : PySem.W.findIn K (.ref C) "__eq__" = some (some (.ref f))) (hf : PySem.W.isFn K (.ref f) = true)
    (h : wpAny (model prog w) A.in1 (call (.ref f) [.ref x, b]) (fun v s' => ∃ r, v = .bool r ∧ Q (.bool (!r)) s') E s) : wpAny (model prog w) A (richCompare .NotEq (.ref x) b) Q E s := by
  have one : wpAny (model prog w) A (tryCompare (.ref x) (cmpInfo .NotEq).2.1 b) (fun r s' => ∃ v, r = some v ∧ Q v s') E s := by
    unfold tryCompare
    refine wpAny_bind (ifBound_ne X I h1 (wpAny_call (codeAny_call_builtin PySem.F.cmp_object.ne.plain PySem.F.cmpEntry_ne (PySem.W.check_slot PySem.F.cmpKind_ne PySem.F.cmpSplit_ne (I.type.andThen (PySem.W.looks_mroIn X hm)) (PySem.F.cmpArgs_ne _ _) (entry_ne hu1 X I hs hf (wpAny_mono h (fun v s' z => ?_) fun _ _ y => y))))))
    obtain ⟨r, rfl, q⟩ := z
    exact ⟨r, rfl, wpAny_pure ⟨_, rfl, q⟩⟩
  unfold richCompare
  simp only [oneThing_ref]
  refine wpAny_holding (wpAny_bind (wpAny_cRoomFor hu ?_))
  refine wpAny_bind (I.type.here (wpAny_bind (hb.here ?_)))
  split
  · rename_i q
    have e : PySem.W.subIn K tb (.ref C) = some false := by
      rcases Bool.or_eq_true_iff.mp hn with e | e
      · rw [beq_iff_eq.mp e] at q; simp at q
      · exact beq_iff_eq.mp e
    refine wpAny_bind ((PySem.W.looks_subIn X e).here ?_)
    simp only [Bool.false_eq_true, if_false]
    refine wpAny_bind (wpAny_mono one (fun r s' z => ?_) fun _ _ e => e)
    obtain ⟨v, rfl, hq⟩ := z
    exact wpAny_pure hq
  · refine wpAny_bind (wpAny_pure ?_)
    simp only [Bool.false_eq_true, if_false]
    refine wpAny_bind (wpAny_mono one (fun r s' z => ?_) fun _ _ e => e)
    obtain ⟨v, rfl, hq⟩ := z
    exact wpAny_pure hq
end
end Dz
namespace Dy
open PySem PySem.Spec PyProof.Rows L2
/-- the default != over an own == -/
structure NeO (K : PySem.W.Frag) (C : Addr) : Prop where
  ne : PySem.W.findIn K (.ref C) "__ne__" = some (some (.builtin "object.__ne__"))
  hm : PySem.W.mroIn K C (.type "object") = some true
section
variable {X : Cx} {k : Nat} {f C : Addr} {sp : Sp} {a b : Expr} {pos : Pos} {δ δ1 δ2 : List Sl} {d : D} {ds : List D} {ns : List Str}
theorem op_neG {t : V → Hp → Value → Prop} (ht : ∀ x H u, t x H u → TyX X.K H x u) (n : NeO X.K C) (h : Spc X.K C "__eq__" f) (F : FnG X.prog X.w X.K X.mg X.base CX0 k f sp) (g : Gx X (k + 1)) : OpR X (compareOp .NotEq) (fun x y H Q => ∃ a dx fs tb, x = .ref a ∧ H a = some (.ins C dx fs) ∧ t y H tb ∧ PySem.W.notFirst X.K C tb = true ∧ sp [.ref a, y] H (fun z H' => ∃ r, z = .bl r ∧ Q (.bl (!r)) H') noX) := by
  intro pins s σ H x y v u Q I rx ry ⟨a, dx, fs, tb, e1, ea, ty, hn, q⟩
  subst e1
  cases (show v = Value.ref a from rx)
  obtain ⟨mA, O, _⟩ := ins_get I.hok ea
  obtain ⟨od, J, _⟩ := O.look
  obtain ⟨Pz, Z, pz, _⟩ := kit_of I ry (ht _ _ _ ty)
  refine PySem.W.cmp_ofNotEq (Dz.ne_own g.rm.units0 g.rm.in1.units0 I.kIn J n.hm (Z.ty _ _ I.kIn pz) hn n.ne h.at_ h.fn (wpAny_mono (run_in1 F g I (.cons (rel_ref a) (.cons ry .nil)) q) (fun r s' z => ?_) fun _ _ x => x))
  obtain ⟨z, H', I', rz, r, e, qz⟩ := z
  subst e
  cases rz
  exact ⟨r, rfl, .bl (!r), H', I', rfl, qz⟩
theorem de_neO {r : Bool} {t : Value} {Cc : List D → D → Prop} (n : NeO X.K C) (h : Spc X.K C "__eq__" f) (F : FnG X.prog X.w X.K X.mg X.base CX0 k f (spP X.K Cc)) (g : Gx X (k + 1)) (ha : DE X a δ (.obj C ns ds) δ1) (hb : DE X b δ1 d δ2) (ht : TyD X.K d t) (hc : ∀ C' ns ds, d = .obj C' ns ds → C' = C) (cc : Cc [.obj C ns ds, d] (.bl r)) :
    DE X (.Compare a [.NotEq] [b] pos) δ (.bl (!r)) δ2 := fun F0 R H σ Q s k0 =>
  (pe_cmpR (op_neG (t := tyAt X.K) (fun _ _ _ z => z) n h F g) peW peW (nomark _)).w (ha F0 R H σ _ s fun x R1 H1 t1 s1 ix => hb F0 R1 H1 σ _ s1 fun y R2 H2 t2 s2 iy => by
    have ix2 := ix.mono t2.ex
    cases ix2 with
    | obj q e1 ia => exact ⟨_, _, _, t, rfl, s2.rg _ _ q, is_TyD s2.rg iy ht, ht.nf hc, use_P s2 (.cons (.obj q e1 ia) (.cons iy .nil)) cc fun v R3 H3 t3 s3 iv => by
        cases iv
        exact ⟨r, rfl, k0 _ R3 H3 ((t1.trans t2).trans t3) s3 (.bl _)⟩⟩)
theorem dt_neO {r : Bool} {t : Value} {Cc : List D → D → Prop} (n : NeO X.K C) (h : Spc X.K C "__eq__" f) (F : FnG X.prog X.w X.K X.mg X.base CX0 k f (spP X.K Cc)) (g : Gx X (k + 1)) (ha : DE X a δ (.obj C ns ds) δ1) (hb : DE X b δ1 d δ2) (ht : TyD X.K d t) (hc : ∀ C' ns ds, d = .obj C' ns ds → C' = C) (cc : Cc [.obj C ns ds, d] (.bl r)) :
    DT X (.Compare a [.NotEq] [b] pos) δ (!r) δ2 := fun F0 R H σ Q s k0 =>
  (pt_cmpR (op_neG (t := tyAt X.K) (fun _ _ _ z => z) n h F g) peW peW (nomark _)).w (ha F0 R H σ _ s fun x R1 H1 t1 s1 ix => hb F0 R1 H1 σ _ s1 fun y R2 H2 t2 s2 iy => by
    have ix2 := ix.mono t2.ex
    cases ix2 with
    | obj q e1 ia => exact ⟨_, _, _, t, rfl, s2.rg _ _ q, is_TyD s2.rg iy ht, ht.nf hc, use_P s2 (.cons (.obj q e1 ia) (.cons iy .nil)) cc fun v R3 H3 t3 s3 iv => by
        cases iv
        exact ⟨r, rfl, _, rfl, k0 R3 H3 ((t1.trans t2).trans t3) s3⟩⟩)
end
end Dy

/-! part Ly18 -/
namespace Dy
open PySem PySem.Spec PyProof.Rows L2
/-- the contract of an __init__ that ends by a list of its own, of tuples of ints -/
def spL (K : PySem.W.Frag) (C : Addr) (Cr : List D → List Str → List D → Str → List (List Int) → Prop) : Sp := fun vs H Q _ => ∃ R p dx vs' ds ns fds f ls, vs = .ref p :: vs' ∧ H p = some (.ins C dx []) ∧ R p = none ∧ Same R H ∧ IsA K R vs' ds ∧ Cr ds ns fds f ls ∧
  ∀ R2 H2 fs0 q ys, Tr H R R2 → (∀ b o, b ≠ p → H b = some o → H2 b = some o) → Same R2 H2 → R2 p = none → H2 p = some (.ins C dx (fs0 ++ [(f, V.ref q)])) → fs0.map (·.1) = ns → IsA K R2 (fs0.map (·.2)) fds → H q = none → R2 q = some (.lst ys) → IsA K R2 ys (ls.map tI) → Q .non H2
section
variable {P : Program} {w : World} {K : PySem.W.Frag} {mg : Str → Option Value} {base : Heap} {k : Nat} {f : Addr}
theorem fn_initL {x qual : Str} {st : Stmt} {fd : FuncData} {N ps : List Str} {C : Addr} {Cr : List D → List Str → List D → Str → List (List Int) → Prop} (F : Fun K x qual st f fd) (S : FnScope N ps (defScope st)) (hb : Binds K fd ps []) (hl : ∀ ds ns fds g ls, Cr ds ns fds g ls → ds.length + 1 = ps.length) (hN : ps.length ≤ N.length)
    (body : ∀ (cdv : Value) (A : Around) (outer : List Env) (s : Shared) (H : Hp) (E : XK) (p dx : Addr) (ds : List D) (ns : List Str) (fds : List D) (g0 : Str) (ls : List (List Int)), Gx (BX P w K mg base N qual st f cdv A outer s H E) k → Cr ds ns fds g0 ls →
      IS (BX P w K mg base N qual st f cdv A outer s H E) p C dx (defBody st) (dats (.at_ p :: ds) N.length) [] [] (PList K p C dx ns fds g0 (ls.map tI))) : FnG P w K mg base CX0 (k + 1) f (spL K C Cr) := by
  refine fng_plain F S hb (fun vs H Q E ⟨R, p, dx, vs', ds, ns, fds, g0, ls, e, _, _, _, ia, c, _⟩ => by rw [e, List.length_cons, ia.len, hl _ _ _ _ _ c]) fun cdv A outer s H vs Q E g ⟨R, p, dx, vs', ds, ns, fds, g0, ls, e, hp, hn, hR, ia, c, q⟩ => wSs_nox ?_
  subst e
  have st0 : StOk K H R H (start N (.ref p :: vs')) (dats (.at_ p :: ds) N.length) := start_ok hR (.cons (.at_ p) ia) (by rw [List.length_cons, hl _ _ _ _ _ c]; exact hN)
  refine body cdv A outer s H E p dx ds ns fds g0 ls ⟨g.rm, g.gd⟩ c H R H _ _ [] ⟨st0, hp, hn, rfl, .nil⟩ fun F' R' H' σ' fs' ⟨ok, fs0, b, ys, e1, e2, e3, e4, e5, e6⟩ t e7 => ?_
  subst e1
  refine q R' H' fs0 b ys t (fun b o hb ho => ok.fr b o (e7 b o hb ho)) ok.rg ok.rp (ok.fr p _ ok.fp) e2 e3 ?_ e5 e6
  have hbp : b ≠ p := fun e => by
    rw [e, ok.fp] at e4
    cases e4
  rcases hH : H b with _ | o
  · rfl
  · rw [e7 b o hbp hH] at e4
    cases e4
end
section
variable {X : Cx} {k : Nat} {f C : Addr} {x : Str} {e : Expr} {es : List Expr} {p pos : Pos} {δ δ1 : List Sl} {ds fds hs : List D} {ns : List Str} {g0 : Str} {ls : List (List Int)}
theorem pe_makeG {sp : Sp} (M : Mk X.K C f) (F : FnG X.prog X.w X.K X.mg X.base CX0 k f sp) (g : Gx X (k + 1)) (hm : X.mg x = some (.ref C)) (hg : Gl X x := by rfl) (hd : (x == ("__debug__" : Str)) = false := by decide)
    (hst : starEach (e :: es) X.env = (false, eval e X.env) :: starEach es X.env := by exact st_any rfl) (hpl : (backTo pos (starEach es X.env)).any (·.1) = false := by rfl) : PE X (.Call (.Name x p) (e :: es) [] pos) (fun σ H Q => wA X (e :: es) σ H fun vs H1 => ∀ y dx, H1 y = none → H1 dx = none → dx ≠ y → sp (V.ref y :: vs) (upd (upd H1 dx (.own y)) y (.ins C dx [])) (fun v H2 => v = .non ∧ Q (.ref y) H2) noX) := ⟨fun pins s σ H Q I h => by
    refine wpAny_Call_Name_kw (ld_glob I hg hm ?_ hd)
    refine PySem.W.callWith_K (h₀ := X.base) I.ok.mod.kin M.kp (thn (h.run pos pins s I) fun us s1 ⟨vs, H1, I1, r, q⟩ => ⟨I1.kIn, ?_⟩) hst hpl
    have hq := q (s1.heap.objs.size + 1) s1.heap.objs.size (I1.hok.fresh (Nat.le_succ _)) (I1.hok.fresh (Nat.le_refl _)) (Nat.ne_of_lt (Nat.lt_succ_self _))
    have I2 := Inv.made (C := C) I1
    have r2 : Vals (V.ref (s1.heap.objs.size + 1) :: vs) (Value.ref (s1.heap.objs.size + 1) :: us) := .cons rfl r
    refine wpAny_call (make_map (f := f) I1.kIn M.makes M.init (beq_iff_eq.mp M.fn) (codeAny_mono (F _ X.stack _ _ (Value.ref (s1.heap.objs.size + 1) :: us) _ _ _ (g.rm.make C us []) g.gd (I2.env0.make C us []) r2 hq) fun r s' hz => ?_))
    match r, hz with
    | .error e, hz => exact False.elim hz
    | .ok .next, hz => exact False.elim hz
    | .ok .brk, hz => exact False.elim hz
    | .ok .cont, hz => exact False.elim hz
    | .ok (.ret u), hz =>
      obtain ⟨v, H', I3, rv, ev, q3⟩ := I2.after hz
      subst ev
      exact ⟨rv, V.ref (s1.heap.objs.size + 1), H', I3, rfl, q3⟩⟩
theorem flds_snoc {K : PySem.W.Frag} {R : Hp} {fs0 : List (Str × V)} {f : Str} {q : Addr} {fds : List D} {items : List D} {ys : List V} (ib : IsA K R (fs0.map (·.2)) fds) (hq : R q = some (.lst ys)) (iy : IsA K R ys items) : IsA K R ((fs0 ++ [(f, V.ref q)]).map (·.2)) (fds ++ [.lst items]) := by
  rw [List.map_append]
  exact ib.app (.cons (.lst hq iy) .nil)
/-- C(e, ..) by such an __init__ -/
theorem de_makeL {Cr : List D → List Str → List D → Str → List (List Int) → Prop} (M : Mk X.K C f) (F : FnG X.prog X.w X.K X.mg X.base CX0 k f (spL X.K C Cr)) (g : Gx X (k + 1)) (hm : X.mg x = some (.ref C)) (h : DA X (e :: es) δ ds δ1) (c : Cr ds ns fds g0 ls) (hg : Gl X x := by rfl) (hd : (x == ("__debug__" : Str)) = false := by decide)
    (hst : starEach (e :: es) X.env = (false, eval e X.env) :: starEach es X.env := by exact st_any rfl) (hpl : (backTo pos (starEach es X.env)).any (·.1) = false := by rfl) : DE X (.Call (.Name x p) (e :: es) [] pos) δ (.obj C (ns ++ [g0]) (fds ++ [.lst (ls.map tI)])) δ1 := fun F0 R H σ Q s k0 => by
  refine (pe_makeG M F g hm hg hd hst hpl).w (h F0 R H σ _ s fun vs R1 H1 t1 s1 ia y dx hy hdx hne => ?_)
  have ry : R1 y = none := s1.rg.free hy
  have fy : F0 y = none := s1.fr.free hy
  have e1 : ∀ b o, H1 b = some o → upd (upd H1 dx (.own y)) y (.ins C dx []) b = some o := fun b o q => by
    rw [upd_ne (ne_of_none q hy), upd_ne (ne_of_none q hdx)]
    exact q
  refine ⟨R1, y, dx, vs, ds, ns, fds, g0, ls, rfl, upd_same, ry, fun b o q => e1 b o (s1.rg b o q), ia, c, fun R2 H2 fs0 q ys t2 e2 r2 y2 h2 nm ib _ hq iy => ⟨rfl, ?_⟩⟩
  have keep : ∀ b o, H1 b = some o → H2 b = some o := fun b o q => e2 b o (ne_of_none q hy) (e1 b o q)
  have u2 : StOk X.K F0 R2 H2 σ δ1 := s1.after ⟨t2.ex, fun a h1 h2 => t2.nw a (by
    rcases hH : H1 a with _ | o
    · exact absurd hH h1
    · rw [e1 a o hH]
      exact fun z => by cases z) h2⟩ keep r2
  have no : ∀ (i : Nat) (es : List D), δ1[i]? ≠ some (.own y es) := fun i es z => by
    obtain ⟨_, _, _, xs, z4, _⟩ := s1.at_ i _ z
    rw [hy] at z4
    cases z4
  obtain ⟨u3, t3⟩ := u2.freeze h2 fy y2 no
  have t12 : Tr F0 R R2 := t1.trans (t2.low fun b o q => e1 b o (s1.fr b o q))
  exact k0 _ _ H2 (t12.trans t3) u3 (.obj upd_same (by rw [List.map_append, nm]; rfl) ((flds_snoc ib hq iy).mono t3.ex))
theorem tups_out {K : PySem.W.Frag} {R R3 : Hp} (h : ∀ a xs, SqT K R a xs → SqT K R3 a xs) : ∀ {ys : List V} {ls : List (List Int)}, IsA K R ys (ls.map tI) → IsA K R3 ys (ls.map tI)
  | _, [], q => by cases q; exact .nil
  | _, l :: ls, q => by
    cases q with
    | cons a b =>
      cases a with
      | tup q ia => exact .cons (.tup (h _ _ q) (by rw [ia.ints]; exact isA_ints l)) (tups_out h b)
/-- data that stand without any object -/
def flat : D → Bool
  | .non => true
  | .bl _ => true
  | .int _ => true
  | .str _ => true
  | _ => false
theorem flat_out {K : PySem.W.Frag} {R R3 : Hp} : ∀ {vs : List V} {ds : List D}, ds.all flat = true → IsA K R vs ds → IsA K R3 vs ds
  | _, [], _, h => by cases h; exact .nil
  | _, d :: ds, hf, h => by
    rw [List.all_cons, Bool.and_eq_true] at hf
    cases h with
    | cons a b =>
      refine .cons ?_ (flat_out hf.2 b)
      cases a with
      | non => exact .non
      | bl b => exact .bl b
      | int i => exact .int i
      | str x => exact .str x
      | lst q i => cases hf.1
      | rol q i => cases hf.1
      | tup q i => cases hf.1
      | obj q n i => cases hf.1
      | at_ p => cases hf.1
      | emp q => cases hf.1
      | dct q => cases hf.1
      | dii q => cases hf.1
/-- C(e, ..) where the list in place i is handed in, and may change afterwards -/
theorem de_makeB {Cr : List D → List Str → List D → Str → List (List Int) → Prop} {r : Addr} (i : Nat) (M : Mk X.K C f) (F : FnG X.prog X.w X.K X.mg X.base CX0 k f (spL X.K C Cr)) (g : Gx X (k + 1)) (hm : X.mg x = some (.ref C)) (hi : δ[i]? = some (.own r hs)) (h : DA X (e :: es) (δ.set i (.dat (.lst hs))) ds (δ.set i (.dat (.lst hs))))
    (hints : ∀ j q as, j ≠ i → δ[j]? = some (.own q as) → ∃ ms : List Int, as = ms.map D.int) (hfl : fds.all flat = true) (c : Cr ds ns fds g0 ls) (hg : Gl X x := by rfl) (hd : (x == ("__debug__" : Str)) = false := by decide)
    (hst : starEach (e :: es) X.env = (false, eval e X.env) :: starEach es X.env := by exact st_any rfl) (hpl : (backTo pos (starEach es X.env)).any (·.1) = false := by rfl) (hnoc : ∀ (j : Nat) (hf : NestedKey → Int) (q : Addr) (ks vs : List D), δ[j]? ≠ some (.odc hf q ks vs) := by (intro j _ _ _ _ hz; repeat' (first | (cases hz; done) | (rcases j with _ | j)))) : DE X (.Call (.Name x p) (e :: es) [] pos) δ (.obj C (ns ++ [g0]) (fds ++ [.lst (ls.map tI)])) δ := fun F0 R H σ Q s k0 => by
  obtain ⟨a1, a2, a3, xs, a4, a5⟩ := s.at_ i _ hi
  have hl : i < δ.length := (List.getElem?_eq_some_iff.mp hi).1
  have no0 : ∀ (j : Nat) (as : List D), (δ.set i .no)[j]? ≠ some (.own r as) := fun j as z => by
    by_cases hj : j = i
    · subst hj
      rw [List.getElem?_set_self hl] at z
      cases z
    · rw [List.getElem?_set_ne (Ne.symm hj)] at z
      exact hj (s.ap j i r as hs z hi)
  obtain ⟨sf, tf⟩ := (s.forget (i := i)).freeze a4 a2 a3 no0
  have sd := sf.setD (i := i) (v := .ref r) (d := .lst hs) (.lst upd_same (a5.mono tf.ex))
  have eσ : σ.set i (some (.ref r)) = σ := by
    have hl2 : i < σ.length := by rw [s.ln]; exact hl
    have : σ[i] = some (.ref r) := by
      have z := List.getElem?_eq_getElem hl2
      rw [a1] at z
      exact (Option.some.inj z).symm
    rw [← this]
    exact List.set_getElem_self hl2
  rw [eσ, List.set_set] at sd
  refine (pe_makeG M F g hm hg hd hst hpl).w (h F0 _ H σ _ sd fun vs R1 H1 t1 s1 ia y dx hy hdx hne => ?_)
  have ry : R1 y = none := s1.rg.free hy
  have fy : F0 y = none := s1.fr.free hy
  have e1 : ∀ b o, H1 b = some o → upd (upd H1 dx (.own y)) y (.ins C dx []) b = some o := fun b o q => by
    rw [upd_ne (ne_of_none q hy), upd_ne (ne_of_none q hdx)]
    exact q
  refine ⟨R1, y, dx, vs, ds, ns, fds, g0, ls, rfl, upd_same, ry, fun b o q => e1 b o (s1.rg b o q), ia, c, fun R2 H2 fs0 q ys t2 e2 r2 y2 h2 nm ib fq hq iy => ⟨rfl, ?_⟩⟩
  have keep : ∀ b o, H1 b = some o → H2 b = some o := fun b o q => e2 b o (ne_of_none q hy) (e1 b o q)
  have r1 : R1 r = some (.lst xs) := t1.ex _ _ upd_same
  have r2r : R2 r = some (.lst xs) := t2.ex _ _ r1
  have hyr : y ≠ r := fun z => by
    rw [z, r1] at ry
    cases ry
  have hqr : q ≠ r := fun z => by
    rw [z, e1 r _ (s1.rg _ _ r1)] at fq
    cases fq
  have hqy : q ≠ y := fun z => by
    rw [z, upd_same] at fq
    cases fq
  -- what remains without the list
  let R3 : Hp := fun b => if b = r then none else if b = y then some (.ins C dx (fs0 ++ [(g0, V.ref q)])) else R2 b
  have R3o : ∀ b o, b ≠ r → R2 b = some o → R3 b = some o := fun b o hb q => by
    show (if b = r then none else if b = y then _ else R2 b) = _
    rw [if_neg hb, if_neg (show ¬ b = y from fun z => by rw [z, y2] at q; cases q)]
    exact q
  have R3y : R3 y = some (.ins C dx (fs0 ++ [(g0, V.ref q)])) := by
    show (if y = r then none else if y = y then _ else R2 y) = _
    rw [if_neg hyr, if_pos rfl]
  have R3r : R3 r = none := if_pos rfl
  have mR : Same R R3 := fun b o q => R3o b o (ne_of_none q a3) (t2.ex _ _ (t1.ex _ _ (tf.ex _ _ q)))
  have sqs : ∀ a zs, SqT X.K R2 a zs → SqT X.K R3 a zs := fun a zs q => by
    rcases q with (q | ⟨o, q⟩) | q
    · exact .inl (.inl (R3o a _ (fun z => by rw [z, r2r] at q; cases q) q))
    · exact .inl (.inr ⟨o, R3o a _ (fun z => by rw [z, r2r] at q; cases q) q⟩)
    · exact .inr q
  have obj3 : Is X.K R3 (.ref y) (.obj C (ns ++ [g0]) (fds ++ [.lst (ls.map tI)])) := .obj R3y (by rw [List.map_append, nm]; rfl) (flds_snoc (flat_out hfl ib) (R3o q _ hqr hq) (tups_out sqs iy))
  have tr : Tr F0 R R3 := ⟨mR, fun a h1 h2 => by
    show (if a = r then none else if a = y then _ else R2 a) = none
    by_cases ha : a = r
    · rw [if_pos ha]
    · rw [if_neg ha, if_neg (show ¬ a = y from fun z => h1 (by rw [z]; exact fy))]
      have b1 : R1 a = none := t1.nw a h1 (tf.nw a h1 h2)
      refine t2.nw a ?_ b1
      rcases hF : F0 a with _ | o
      · exact absurd hF h1
      · rw [e1 a o (s1.fr a o hF)]
        exact fun z => by cases z⟩
  refine k0 _ R3 H2 tr ⟨fun b o q => keep b o (s1.fr b o q), fun b o q => ?_, s.ln, fun j z hz => ?_, s.ap, s.ap2⟩ obj3
  · have q' : (if b = r then none else if b = y then some (.ins C dx (fs0 ++ [(g0, V.ref _)])) else R2 b) = some o := q
    by_cases hb : b = r
    · rw [if_pos hb] at q'
      cases q'
    · rw [if_neg hb] at q'
      by_cases hb2 : b = y
      · rw [if_pos hb2] at q'
        cases q'
        rw [hb2]
        exact h2
      · rw [if_neg hb2] at q'
        exact r2 b o q'
  · have z0 := s.at_ j z hz
    match z, z0, hz with
    | .no, _, _ => trivial
    | .dat d, z0, _ =>
      obtain ⟨v, ev, jv⟩ := z0
      exact ⟨v, ev, jv.mono mR⟩
    | .own r' as, z0, hz =>
      obtain ⟨b1, b2, b3, zs, b4, b5⟩ := z0
      by_cases hj : j = i
      · subst hj
        rw [hi] at hz
        cases hz
        exact ⟨b1, b2, R3r, xs, r2 r _ r2r, a5.mono mR⟩
      · obtain ⟨ms, rfl⟩ := hints j r' as hj hz
        obtain ⟨c1, c2, c3, ws, c4, c5⟩ := s1.at_ j (.own r' (ms.map D.int)) (by rw [List.getElem?_set_ne (Ne.symm hj)]; exact hz)
        have hr' : r' ≠ r := fun z => hj (s.ap j i r _ hs (z ▸ hz) hi)
        have hy' : r' ≠ y := fun z => by rw [z, hy] at c4; cases c4
        refine ⟨c1, c2, ?_, ws, keep r' _ c4, by rw [c5.ints]; exact isA_ints ms⟩
        show (if r' = r then none else if r' = y then _ else R2 r') = none
        rw [if_neg hr', if_neg hy']
        exact t2.nw r' (by rw [e1 r' _ c4]; exact fun z => by cases z) c3
    | .odc hf q ks vs, z0, hz => exact absurd hz (hnoc j hf q ks vs)
end
end Dy

/-! part Ly19 -/
namespace Dy
open PySem PySem.Spec PyProof.Rows L2
section
variable {X : Cx} {e : Expr} {δ δ1 : List Sl} {hs ds : List D} {r : Addr} {m : Bool} {y : Str} {Φ : DD} {pos : Pos}
/-- a test that reads the list in place i as data -/
theorem dt_bor (i : Nat) (hi : δ[i]? = some (.own r hs)) (hints : ∀ j q as, j ≠ i → δ[j]? = some (.own q as) → ∃ ms : List Int, as = ms.map D.int) (h : DT X e (δ.set i (.dat (.lst hs))) m (δ.set i (.dat (.lst hs)))) (hnoc : ∀ (j : Nat) (hf : NestedKey → Int) (q : Addr) (ks vs : List D), δ[j]? ≠ some (.odc hf q ks vs) := by (intro j _ _ _ _ hz; repeat' (first | (cases hz; done) | (rcases j with _ | j)))) : DT X e δ m δ := fun F0 R H σ Q s k0 => by
  obtain ⟨a1, a2, a3, xs, a4, a5⟩ := s.at_ i _ hi
  have hl : i < δ.length := (List.getElem?_eq_some_iff.mp hi).1
  have no0 : ∀ (j : Nat) (as : List D), (δ.set i .no)[j]? ≠ some (.own r as) := fun j as z => by
    by_cases hj : j = i
    · subst hj
      rw [List.getElem?_set_self hl] at z
      cases z
    · rw [List.getElem?_set_ne (Ne.symm hj)] at z
      exact hj (s.ap j i r as hs z hi)
  obtain ⟨sf, tf⟩ := (s.forget (i := i)).freeze a4 a2 a3 no0
  have sd := sf.setD (i := i) (v := .ref r) (d := .lst hs) (.lst upd_same (a5.mono tf.ex))
  have eσ : σ.set i (some (.ref r)) = σ := by
    have hl2 : i < σ.length := by rw [s.ln]; exact hl
    have : σ[i] = some (.ref r) := by
      have z := List.getElem?_eq_getElem hl2
      rw [a1] at z
      exact (Option.some.inj z).symm
    rw [← this]
    exact List.set_getElem_self hl2
  rw [eσ, List.set_set] at sd
  refine h F0 _ H σ _ sd fun R1 H1 t1 s1 => k0 R H1 (Tr.refl _ _) ⟨s1.fr, fun b o q => s1.rg b o (t1.ex _ _ (tf.ex _ _ q)), s.ln, fun j z hz => ?_, s.ap, s.ap2⟩
  have z0 := s.at_ j z hz
  match z, z0, hz with
  | .no, _, _ => trivial
  | .dat d, z0, _ => exact z0
  | .own r' as, z0, hz =>
    obtain ⟨b1, b2, b3, zs, b4, b5⟩ := z0
    by_cases hj : j = i
    · subst hj
      rw [hi] at hz
      cases hz
      exact ⟨b1, b2, b3, xs, s1.rg _ _ (t1.ex _ _ upd_same), a5⟩
    · obtain ⟨ms, rfl⟩ := hints j r' as hj hz
      obtain ⟨c1, c2, c3, ws, c4, c5⟩ := s1.at_ j (.own r' (ms.map D.int)) (by rw [List.getElem?_set_ne (Ne.symm hj)]; exact hz)
      exact ⟨b1, b2, b3, ws, c4, by rw [c5.ints]; exact isA_ints ms⟩
  | .odc hf q ks vs, z0, hz => exact absurd hz (hnoc j hf q ks vs)
/-- l.clear() -/
theorem ds_clear {yp ap tp : Pos} (i : Nat) (hi : δ[i]? = some (.own r ds)) (q : Φ.nx (δ.set i (.own r []))) (hN : X.N[i]? = some y := by rfl)
    (hv : Vis X.env.scope y := by first | exact Or.inl rfl | exact Or.inr (Or.inl rfl) | exact Or.inr (Or.inr rfl)) (hyd : (y == ("__debug__" : Str)) = false := by decide) (hyc : (y == ("__classdict__" : Str)) = false := by decide)
    (p0 : ∀ {ta : TE}, PE X (.Name y yp) ta → PE X (.Call (.Attribute (.Name y yp) "clear" ap) [] [] tp) (tBM0 X.K "list" rClear ta)) (hs : swapsWith (.Call (.Attribute (.Name y yp) "clear" ap) [] [] tp) none pos.line X.env = pure false := by rfl) :
    DS X (.Expr (.Call (.Attribute (.Name y yp) "clear" ap) [] [] tp) pos) δ Φ := fun F R H σ E s k => by
  obtain ⟨z1, z2, z3, xs, z4, ia⟩ := s.at_ i _ hi
  exact (ps_expr (p0 (pe_var hN hv hyd hyc)) hs).w ⟨.ref r, z1, .inl ⟨rfl, xs, SqL.of z4⟩, ⟨r, xs, rfl, rfl, z4, k.nx R _ σ _ (Tr.refl _ _) (s.updO hi .nil) q⟩⟩
end
end Dy

/-! part Ly20 -/
namespace Dy
open PySem PySem.Spec PyProof.Rows L2
section
variable {X : Cx} {δ : List Sl} {ds : List D} {y : Str} {yp : Pos} {p : Addr}
/-- the list in place i itself; the place is forgotten -/
theorem do_v (i : Nat) (hi : δ[i]? = some (.own p ds) := by rfl) (hN : X.N[i]? = some y := by rfl) (hv : Vis X.env.scope y := by first | exact Or.inl rfl | exact Or.inr (Or.inl rfl) | exact Or.inr (Or.inr rfl)) (hyd : (y == ("__debug__" : Str)) = false := by decide) (hyc : (y == ("__classdict__" : Str)) = false := by decide) :
    DO X (.Name y yp) δ ds (δ.set i .no) := fun F R H σ Q s k => by
  obtain ⟨z1, z2, z3, xs, z4, ia⟩ := s.at_ i _ hi
  have hl : i < δ.length := (List.getElem?_eq_some_iff.mp hi).1
  refine (pe_var hN hv hyd hyc).w ⟨.ref p, z1, k p xs R H (Tr.refl _ _) s.forget z2 z3 z4 ia fun j es z => ?_⟩
  by_cases hj : j = i
  · subst hj
    rw [List.getElem?_set_self hl] at z
    cases z
  · rw [List.getElem?_set_ne (Ne.symm hj)] at z
    exact hj (s.ap j i p es ds z hi)
end
end Dy

/-! part Ly21 -/
namespace Dy
open PySem PySem.Spec PyProof.Rows L2
/-! sorted and min of lists of data, of any length -/
theorem dpAll_zip {K : PySem.W.Frag} {H : Hp} : ∀ {ps : List (V × PyData)}, (∀ p ∈ ps, Dp K H p.1 p.2) → DpAll K H (ps.map (·.1)) (ps.map (·.2))
  | [], _ => .nil
  | p :: ps, h => .cons (h p List.mem_cons_self) (dpAll_zip fun q hq => h q (List.mem_cons_of_mem _ hq))
theorem vals_each {ps : List (V × PyData)} {its : List Value} (r : Vals (ps.map (·.1)) its) : PySem.W.EachIs (fun u p => RelV p.1 u) its ps := by
  induction ps generalizing its with
  | nil => cases r; exact .nil
  | cons p ps ih =>
    cases r with
    | cons a b => exact .cons a (ih b)
theorem each_vals {ps : List (V × PyData)} {its : List Value} (r : PySem.W.EachIs (fun u p => RelV p.1 u) its ps) : Vals (ps.map (·.1)) its := by
  induction ps generalizing its with
  | nil => cases r; exact .nil
  | cons p ps ih =>
    cases r with
    | cons a b => exact .cons a (ih b)
theorem each_reads {X : Cx} {pins : List (Addr × Obj)} {σ : L2.St} {H : Hp} {s : Shared} (I : L2.Inv X pins σ H s) : ∀ {ps : List (V × PyData)} {its : List Value}, (∀ p ∈ ps, Dp X.K H p.1 p.2) → Vals (ps.map (·.1)) its →
    PySem.W.EachIs (fun u p => ∃ as, Reads s.heap u p.2 as) its ps
  | [], _, _, r => by cases r; exact .nil
  | p :: ps, _, h, r => by
    cases r with
    | cons a b => exact .cons (Dp.reads I p.2 p.1 _ (h p List.mem_cons_self) a) (each_reads I (fun q hq => h q (List.mem_cons_of_mem _ hq)) b)
theorem depth_all {n : Nat} : ∀ {ds : List PyData}, (∀ d ∈ ds, d.depth ≤ n) → PyData.depthAll ds ≤ n
  | [], _ => Nat.zero_le _
  | d :: ds, h => Nat.max_le.mpr ⟨h d List.mem_cons_self, depth_all fun x hx => h x (List.mem_cons_of_mem _ hx)⟩
section
variable {X : Cx}
def rSortedD (K : PySem.W.Frag) : List V → Hp → VK → Prop := fun vs H Q => ∃ (a : Addr) (ps : List (V × PyData)), vs = [V.ref a] ∧ SqL K H a (ps.map (·.1)) ∧ (∀ p ∈ ps, Dp K H p.1 p.2) ∧ PySem.W.AllAlike (ps.map (·.2)) ∧ PySem.W.Sortable (ps.map (·.2)) ∧ (∀ p ∈ ps, p.2.depth ≤ 40) ∧
  ∀ p, H p = none → Q (.ref p) (upd H p (.lst ((ps.mergeSort (PySem.W.dataLe false (·.2))).map (·.1))))
theorem cr_sortedD (hu : X.A.units + 64 < cLine) : CallR X (.builtin "sorted") (rSortedD X.K) := by
  intro pins s σ H vs us Q I r h
  obtain ⟨a, ps, rfl, hs, hd, hal, hk, hdp, q⟩ := h
  obtain ⟨its, rv, hl, hz⟩ := I.list hs
  obtain ⟨u, rfl, ru⟩ := vals1 r
  obtain rfl : u = Value.ref a := ru
  have hz' : ps.length ≤ sizeLine := by rw [List.length_map] at hz; exact hz
  refine PySem.W.sorted_data (R := fun u p => RelV p.1 u) (enc := fun p : V × PyData => p.2) hl.isList (vals_each rv) (each_reads I hd rv) hal hk hz' (fun p hp => by have := hdp p hp; omega) fun out ho eo => ?_
  obtain ⟨n, hn⟩ := sortedAll_at s.heap its out.toArray
  have hp : s.heap.objs.size ≤ s.heap.objs.size + 1 := Nat.le_succ _
  refine ⟨.ref (s.heap.objs.size + 1), _, I.laid (t' := s.toks) (o := .lst ((ps.mergeSort (PySem.W.dataLe false (·.2))).map (·.1))) (fun _ _ => sortedAll_old) hp ⟨?_, out, n, each_vals eo, hn⟩, rfl, q _ (I.hok.fresh hp)⟩
  rw [List.length_map, List.length_mergeSort]
  exact hz'
variable {a : Expr} {p pos : Pos} {δ δ1 : List Sl}
theorem isA_zip {K : PySem.W.Frag} {R : Hp} {β : Type} {enc : β → D} : ∀ {xs : List V} {bs : List β}, IsA K R xs (bs.map enc) → ∃ zs : List (V × β), zs.map (·.1) = xs ∧ zs.map (·.2) = bs ∧ ∀ z ∈ zs, Is K R z.1 (enc z.2)
  | _, [], h => by
    cases h
    exact ⟨[], rfl, rfl, fun z hz => absurd hz List.not_mem_nil⟩
  | _, b :: bs, h => by
    cases h with
    | @cons v _ _ _ i1 i2 =>
      obtain ⟨zs, e1, e2, e3⟩ := isA_zip i2
      refine ⟨(v, b) :: zs, by rw [List.map_cons, e1], by rw [List.map_cons, e2], fun z hz => ?_⟩
      rcases List.mem_cons.mp hz with e | hz
      · rw [e]; exact i1
      · exact e3 z hz
theorem zip_isA {K : PySem.W.Frag} {R : Hp} {β : Type} {enc : β → D} : ∀ {zs : List (V × β)}, (∀ z ∈ zs, Is K R z.1 (enc z.2)) → IsA K R (zs.map (·.1)) ((zs.map (·.2)).map enc)
  | [], _ => .nil
  | z :: zs, h => .cons (h z List.mem_cons_self) (zip_isA fun x hx => h x (List.mem_cons_of_mem _ hx))
/-- sorted(xs) -/
theorem do_sortD {β : Type} {enc : β → D} {bs : List β} {n : Nat} (hm : X.mg "sorted" = none) (hu : X.A.units + 64 < cLine) (h : DE X a δ (.lst (bs.map enc)) δ1) (ok : ∀ b ∈ bs, okD n (enc b) = true) (hn : n ≤ 40) (hal : PySem.W.AllAlike (bs.map fun b => py (enc b))) (hk : PySem.W.Sortable (bs.map fun b => py (enc b))) (hg : Gl X "sorted" := by rfl)
    (na : starEach [a] X.env = (false, eval a X.env) :: starEach [] X.env := by exact st_any rfl) (hpl : (backTo pos (starEach [] X.env)).any (·.1) = false := by rfl) :
    DO X (.Call (.Name "sorted" p) [a] [] pos) δ ((bs.mergeSort (PySem.W.dataLe false fun b => py (enc b))).map enc) δ1 := fun F R H σ Q s k =>
  (pe_callB (cr_sortedD hu) hg hm PyProof.Rows.boot_sorted paW (by decide) (by decide) na hpl).w ((da_one h na) F R H σ _ s fun vs R1 H1 t1 s1 ia => by
    cases ia with
    | cons i1 i2 =>
      cases i2
      cases i1 with
      | @lst l xs _ qa ib =>
        obtain ⟨zs, rfl, e2, e3⟩ := isA_zip ib
        have hmem : ∀ z ∈ zs, z.2 ∈ bs := fun z hz => by rw [← e2]; exact List.mem_map_of_mem hz
        have eb : (zs.map fun z : V × β => (z.1, py (enc z.2))).map (·.2) = bs.map fun b => py (enc b) := by
          rw [List.map_map, ← e2, List.map_map]
          rfl
        have es : (zs.map fun z : V × β => (z.1, py (enc z.2))).mergeSort (PySem.W.dataLe false (·.2)) = (zs.mergeSort (PySem.W.dataLe false fun z => py (enc z.2))).map fun z => (z.1, py (enc z.2)) :=
          (PySem.W.sort_maps (fun z : V × β => (z.1, py (enc z.2))) fun a _ b _ => rfl).symm
        refine ⟨l, zs.map fun z => (z.1, py (enc z.2)), rfl, ?_, ?_, by rw [eb]; exact hal, by rw [eb]; exact hk, ?_, fun r hr => ?_⟩
        · rw [List.map_map]
          exact SqL.of (s1.rg _ _ qa)
        · intro p hp
          obtain ⟨z, hz, rfl⟩ := List.mem_map.mp hp
          exact ok_dp s1.rg n _ _ (ok _ (hmem z hz)) (e3 z hz)
        · intro p hp
          obtain ⟨z, hz, rfl⟩ := List.mem_map.mp hp
          exact Nat.le_trans (ok_depth n _ (ok _ (hmem z hz))) hn
        · rw [es, List.map_map]
          have i3 : IsA X.K R1 ((zs.mergeSort (PySem.W.dataLe false fun z => py (enc z.2))).map (·.1)) ((bs.mergeSort (PySem.W.dataLe false fun b => py (enc b))).map enc) := by
            have q := zip_isA (enc := enc) (zs := zs.mergeSort (PySem.W.dataLe false fun z => py (enc z.2))) fun z hz => e3 z (List.mem_mergeSort.mp hz)
            have e4 : (zs.mergeSort (PySem.W.dataLe false fun z => py (enc z.2))).map (·.2) = (zs.map (·.2)).mergeSort (PySem.W.dataLe false fun b => py (enc b)) := PySem.W.sort_maps (fun z : V × β => z.2) (fun a _ b _ => rfl)
            rw [e4, e2] at q
            exact q
          exact k r _ R1 _ t1 (s1.off hr) (s1.fr.free hr) (s1.rg.free hr) upd_same i3 fun i es z => by
            obtain ⟨_, _, _, ys, hy, _⟩ := s1.at_ i _ z
            rw [hr] at hy
            cases hy)
/-! min of a list -/
def rMinD (K : PySem.W.Frag) : List V → Hp → VK → Prop := fun vs H Q => ∃ (a : Addr) (ps : List (V × PyData)) (x : PyData) (xs : List PyData), vs = [V.ref a] ∧ SqL K H a (ps.map (·.1)) ∧ (∀ p ∈ ps, Dp K H p.1 p.2) ∧ ps.map (·.2) = x :: xs ∧ PySem.W.AlikeAll (x :: xs) ∧ (∀ p ∈ ps, p.2.depth ≤ 40) ∧
  ∀ p ∈ ps, p.2 = PySem.W.minD x xs → Q p.1 H
theorem each_get {ps : List (V × PyData)} {its : List Value} {Rr : Value → V × PyData → Prop} (r : PySem.W.EachIs Rr its ps) : ∀ {i : Nat} {v : Value}, its[i]? = some v → ∃ p ∈ ps, Rr v p := by
  induction r with
  | nil => intro i v h; simp at h
  | cons a b ih =>
    intro i v h
    cases i with
    | zero =>
      cases h
      exact ⟨_, List.mem_cons_self, a⟩
    | succ i =>
      obtain ⟨p, hp, h2⟩ := ih (i := i) (v := v) (by simpa using h)
      exact ⟨p, List.mem_cons_of_mem _ hp, h2⟩
theorem cr_minD (hc : X.calm = true) (hu : X.A.units + 64 < cLine) : CallR X (.builtin "min") (rMinD X.K) := by
  intro pins s σ H vs us Q I r h
  obtain ⟨a, ps, x, xs, rfl, hs, hd, exs, hal, hdp, q⟩ := h
  obtain ⟨its, rv, hl, hz⟩ := I.list hs
  obtain ⟨u, rfl, ru⟩ := vals1 r
  obtain rfl : u = Value.ref a := ru
  have er := each_reads I hd rv
  have eb : PySem.W.EachIs (fun u p => RelV p.1 u ∧ ∃ as, Reads s.heap u p.2 as) its ps := by
    clear hs hl hz
    induction ps generalizing its x xs with
    | nil => cases rv; exact .nil
    | cons p ps ih =>
      cases rv with
      | cons a b =>
        cases er with
        | cons c d =>
          refine .cons ⟨a, c⟩ ?_
          clear ih
          have h2 : ∀ (ps : List (V × PyData)) (its : List Value), Vals (ps.map (·.1)) its → PySem.W.EachIs (fun u p => ∃ as, Reads s.heap u p.2 as) its ps → PySem.W.EachIs (fun u p => RelV p.1 u ∧ ∃ as, Reads s.heap u p.2 as) its ps := by
            intro ps
            induction ps with
            | nil => intro its r1 r2; cases r1; exact .nil
            | cons p ps ih =>
              intro its r1 r2
              cases r1 with
              | cons a b =>
                cases r2 with
                | cons c d => exact .cons ⟨a, c⟩ (ih _ b d)
          exact h2 _ _ b d
  obtain ⟨as, hr⟩ := Dp.readsAll I _ _ its (dpAll_zip hd) rv
  rw [exs] at hr
  refine PySem.W.min_list_data (I.ok.hd hc) hl.isList (x := x) (xs := xs) (by simpa using hr) hal (by
    have : PyData.depthAll (x :: xs) ≤ 40 := depth_all fun d hd' => by
      rw [← exs] at hd'
      obtain ⟨p, hp, rfl⟩ := List.mem_map.mp hd'
      exact hdp p hp
    omega) fun i v h' tk bs hv hrv hk => ?_
  obtain ⟨p, hp, h1, as2, h2⟩ := each_get eb (i := i) (v := v) (by simpa using hv)
  have e := (PyProof.Rows.reads_det (fun b o hb _ => hk b o hb) h2 hrv).1
  exact ⟨p.1, H, I.kept (t' := tk) hk, h1, q p hp e.symm⟩
/-- min(xs), xs not empty -/
theorem de_minD {β : Type} {enc : β → D} {bs : List β} {x : β} {xs : List β} {r : β} {n : Nat} (hm : X.mg "min" = none) (hu : X.A.units + 64 < cLine) (h : DE X a δ (.lst (bs.map enc)) δ1) (eb : bs = x :: xs) (ok : ∀ b ∈ bs, okD n (enc b) = true) (hn : n ≤ 40) (hal : PySem.W.AlikeAll (bs.map fun b => py (enc b)))
    (hr : ∀ b ∈ bs, py (enc b) = PySem.W.minD (py (enc x)) (xs.map fun b => py (enc b)) → b = r) (hc : X.calm = true := by rfl) (hg : Gl X "min" := by rfl)
    (na : starEach [a] X.env = (false, eval a X.env) :: starEach [] X.env := by exact st_any rfl) (hpl : (backTo pos (starEach [] X.env)).any (·.1) = false := by rfl) :
    DE X (.Call (.Name "min" p) [a] [] pos) δ (enc r) δ1 := fun F R H σ Q s k =>
  (pe_callB (cr_minD hc hu) hg hm PyProof.Rows.boot_min paW (by decide) (by decide) na hpl).w ((da_one h na) F R H σ _ s fun vs R1 H1 t1 s1 ia => by
    cases ia with
    | cons i1 i2 =>
      cases i2
      cases i1 with
      | @lst l xs' _ qa ib =>
        obtain ⟨zs, rfl, e2, e3⟩ := isA_zip ib
        have hmem : ∀ z ∈ zs, z.2 ∈ bs := fun z hz => by rw [← e2]; exact List.mem_map_of_mem hz
        have eb2 : (zs.map fun z : V × β => (z.1, py (enc z.2))).map (·.2) = bs.map fun b => py (enc b) := by
          rw [List.map_map, ← e2, List.map_map]
          rfl
        refine ⟨l, zs.map fun z => (z.1, py (enc z.2)), py (enc x), xs.map fun b => py (enc b), rfl, ?_, ?_, by rw [eb2, eb]; rfl, by rw [eb] at hal; exact hal, ?_, fun p hp e => ?_⟩
        · rw [List.map_map]
          exact SqL.of (s1.rg _ _ qa)
        · intro p hp
          obtain ⟨z, hz, rfl⟩ := List.mem_map.mp hp
          exact ok_dp s1.rg n _ _ (ok _ (hmem z hz)) (e3 z hz)
        · intro p hp
          obtain ⟨z, hz, rfl⟩ := List.mem_map.mp hp
          exact Nat.le_trans (ok_depth n _ (ok _ (hmem z hz))) hn
        · obtain ⟨z, hz, rfl⟩ := List.mem_map.mp hp
          have e' := hr z.2 (hmem z hz) e
          have i := e3 z hz
          rw [e'] at i
          exact k _ _ _ t1 s1 i)
end
/-! tuples of ints of one length -/
theorem keyAll_ints : ∀ t : List Int, PySem.W.keyToksAll (pys (t.map D.int)) = (t.flatMap fun i => [Sum.inl 1, Sum.inl i]) ++ [Sum.inl 0]
  | [] => by simp [pys, PySem.W.keyToksAll]
  | i :: t => by
    show PySem.W.keyToksAll (.int i :: pys (t.map D.int)) = _
    rw [PySem.W.toks_all_cons, keyAll_ints t]
    simp [PySem.W.keyToks]
theorem alike_ints : ∀ {t u : List Int}, t.length = u.length → PySem.W.alikeAll (pys (t.map D.int)) (pys (u.map D.int)) = true
  | [], [], _ => rfl
  | a :: t, b :: u, h => by
    show (PySem.W.alike (.int a) (.int b) && PySem.W.alikeAll (pys (t.map D.int)) (pys (u.map D.int))) = true
    rw [alike_ints (by simpa using h)]
    rfl
  | [], _ :: _, h => by cases h
  | _ :: _, [], h => by cases h
theorem alike_tI {t u : List Int} (h : t.length = u.length) : PySem.W.alike (py (tI t)) (py (tI u)) = true := alike_ints h
theorem dataLt_tI : ∀ {t u : List Int}, t.length = u.length → PySem.W.dataLt (py (tI t)) (py (tI u)) = Dy.lexLt t u := by
  have go : ∀ {t u : List Int}, t.length = u.length → PyProof.Rows.lexLt PyProof.Rows.itemOrd (PySem.W.keyToksAll (pys (t.map D.int))) (PySem.W.keyToksAll (pys (u.map D.int))) = Dy.lexLt t u := by
    intro t
    induction t with
    | nil =>
      intro u h
      cases u with
      | nil => rfl
      | cons b u => cases h
    | cons a t ih =>
      intro u h
      cases u with
      | nil => cases h
      | cons b u =>
        show PyProof.Rows.lexLt PyProof.Rows.itemOrd (PySem.W.keyToksAll (.int a :: pys (t.map D.int))) (PySem.W.keyToksAll (.int b :: pys (u.map D.int))) = _
        rw [PySem.W.toks_all_cons, PySem.W.toks_all_cons]
        show PyProof.Rows.lexLt PyProof.Rows.itemOrd ([Sum.inl 1] ++ (PySem.W.keyToks (.int a) ++ _)) ([Sum.inl 1] ++ (PySem.W.keyToks (.int b) ++ _)) = _
        rw [PySem.W.lex_pre]
        show PyProof.Rows.lexLt PyProof.Rows.itemOrd (Sum.inl a :: _) (Sum.inl b :: _) = _
        by_cases e : a = b
        · subst e
          show PyProof.Rows.lexLt PyProof.Rows.itemOrd ([Sum.inl a] ++ PySem.W.keyToksAll (pys (t.map D.int))) ([Sum.inl a] ++ PySem.W.keyToksAll (pys (u.map D.int))) = _
          rw [PySem.W.lex_pre, ih (by simpa using h)]
          simp [Dy.lexLt]
        · rw [PySem.W.lex_atom (fun q => e (Sum.inl.inj q))]
          have z := PySem.W.dataLt_int a b
          unfold PySem.W.dataLt at z
          simp only [PySem.W.keyToks] at z
          rw [z]
          simp [Dy.lexLt, e]
  intro t u h
  show PySem.W.dataLt (.tuple (pys (t.map D.int))) (.tuple (pys (u.map D.int))) = _
  rw [PySem.W.dataLt_tuple]
  exact go h
theorem py_tI_inj {t u : List Int} (h : py (tI t) = py (tI u)) : t = u := by
  have e : pys (t.map D.int) = pys (u.map D.int) := PyData.tuple.inj h
  clear h
  induction t generalizing u with
  | nil =>
    cases u with
    | nil => rfl
    | cons b u => cases e
  | cons a t ih =>
    cases u with
    | nil => cases e
    | cons b u =>
      obtain ⟨e1, e2⟩ := List.cons.inj (show PyData.int a :: pys (t.map D.int) = PyData.int b :: pys (u.map D.int) from e)
      rw [PyData.int.inj e1, ih e2]
/-- not above, in the order of tuples -/
def leT (a b : List Int) : Bool := !Dy.lexLt b a
def sortT (ts : List (List Int)) : List (List Int) := ts.mergeSort leT
def minT (t : List Int) (ts : List (List Int)) : List Int := ts.foldl (fun a y => if Dy.lexLt y a then y else a) t
theorem minD_tI {m : Nat} : ∀ {ts : List (List Int)} {t : List Int}, t.length = m → (∀ u ∈ ts, u.length = m) → PySem.W.minD (py (tI t)) (ts.map fun b => py (tI b)) = py (tI (minT t ts))
  | [], _, _, _ => rfl
  | u :: ts, t, h, hs => by
    have hu := hs u List.mem_cons_self
    have e : PySem.W.minD (py (tI t)) ((u :: ts).map fun b => py (tI b)) = PySem.W.minD (if PySem.W.dataLt (py (tI u)) (py (tI t)) then py (tI u) else py (tI t)) (ts.map fun b => py (tI b)) := rfl
    rw [e, dataLt_tI (by rw [hu, h])]
    show _ = py (tI (minT (if Dy.lexLt u t then u else t) ts))
    split
    · exact minD_tI hu fun x hx => hs x (List.mem_cons_of_mem _ hx)
    · exact minD_tI h fun x hx => hs x (List.mem_cons_of_mem _ hx)
section
variable {X : Cx} {a : Expr} {p pos : Pos} {δ δ1 : List Sl}
/-- sorted(xs), xs a list of tuples of ints of one length -/
theorem do_sortT {ts : List (List Int)} {m : Nat} (hm : X.mg "sorted" = none) (hu : X.A.units + 64 < cLine) (h : DE X a δ (.lst (ts.map tI)) δ1) (ok : ∀ t ∈ ts, okD 2 (tI t) = true) (hl : ∀ t ∈ ts, t.length = m) (h1 : 1 ≤ m) (hg : Gl X "sorted" := by rfl)
    (na : starEach [a] X.env = (false, eval a X.env) :: starEach [] X.env := by exact st_any rfl) (hpl : (backTo pos (starEach [] X.env)).any (·.1) = false := by rfl) :
    DO X (.Call (.Name "sorted" p) [a] [] pos) δ ((sortT ts).map tI) δ1 := by
  have q := do_sortD (enc := tI) (bs := ts) (n := 2) (p := p) (pos := pos) hm hu h ok (by decide) ?_ ?_ hg na hpl
  · rw [PySem.W.sort_congr (s := leT) fun x hx y hy => ?_] at q
    · exact q
    · show (!PySem.W.dataLt (py (tI y)) (py (tI x))) = _
      rw [dataLt_tI (by rw [hl x hx, hl y hy])]
      rfl
  · intro d hd d' hd'
    obtain ⟨x, hx, rfl⟩ := List.mem_map.mp hd
    obtain ⟨y, hy, rfl⟩ := List.mem_map.mp hd'
    exact alike_tI (by rw [hl x hx, hl y hy])
  · refine .inl fun d hd => ?_
    obtain ⟨x, hx, rfl⟩ := List.mem_map.mp hd
    cases x with
    | nil => have := hl _ hx; simp at this; omega
    | cons i x => exact ⟨.int i, pys (x.map D.int), rfl⟩
/-- min(xs), xs a list of tuples of ints of one length -/
theorem de_minLT {t : List Int} {ts : List (List Int)} {m : Nat} (hm : X.mg "min" = none) (hu : X.A.units + 64 < cLine) (h : DE X a δ (.lst ((t :: ts).map tI)) δ1) (ok : ∀ u ∈ t :: ts, okD 2 (tI u) = true) (hl : ∀ u ∈ t :: ts, u.length = m) (hc : X.calm = true := by rfl) (hg : Gl X "min" := by rfl)
    (na : starEach [a] X.env = (false, eval a X.env) :: starEach [] X.env := by exact st_any rfl) (hpl : (backTo pos (starEach [] X.env)).any (·.1) = false := by rfl) :
    DE X (.Call (.Name "min" p) [a] [] pos) δ (tI (minT t ts)) δ1 :=
  de_minD (enc := tI) (bs := t :: ts) (n := 2) (r := minT t ts) hm hu h rfl ok (by decide) ⟨fun d hd d' hd' => by
    obtain ⟨x, hx, rfl⟩ := List.mem_map.mp hd
    obtain ⟨y, hy, rfl⟩ := List.mem_map.mp hd'
    exact alike_tI (by rw [hl x hx, hl y hy]), fun d hd => by
    obtain ⟨x, hx, rfl⟩ := List.mem_map.mp hd
    intro z
    cases z⟩ (fun b hb e => py_tI_inj (by rw [e, minD_tI (hl t List.mem_cons_self) fun u hu => hl u (List.mem_cons_of_mem _ hu)])) hc hg na hpl
end
end Dy

/-! part Ly22 -/
namespace Dy
open PySem PySem.Spec PyProof.Rows L2
theorem kit_of {K : PySem.W.Frag} {C : Addr} {T : String} {r : Bool} (h : PySem.W.subIn K (.ref C) (.type T) = some r) (hm : PySem.W.kitMeta T = true) : PySem.W.kitOne K (.ref C) (.type T) = some r := by
  unfold PySem.W.kitOne
  rw [if_neg (by simp)]
  unfold PySem.W.kitCls
  dsimp only
  rw [if_pos hm]
  exact h
theorem ck_of {K : PySem.W.Frag} {C : Addr} (h2 : PySem.W.isClsIn K C = true) (h3 : PySem.W.typeIn K (.ref C) = some (.type "type")) : ((PySem.W.clsIn K C).isSome && PySem.W.typeIn K (.ref C) == some (.type "type")) = true := by
  have h2' : (PySem.W.clsIn K C).isSome = true := h2
  rw [h2', h3] <;> rfl
/-- is it None -/
def isNon : D → Bool
  | .non => true
  | _ => false
theorem is_non {K : PySem.W.Frag} {R : Hp} {v : V} {d : D} (h : Is K R v d) : decide (v = V.non) = isNon d := by
  cases h <;> rfl
section
variable {X : Cx} {a b c : Expr} {δ δ1 δ2 : List Sl} {pos p0 : Pos} {d : D} {j : Nat}
theorem dt_isNone (ha : DE X a δ d δ1) : DT X (.Compare a [.Is] [.Constant .none j p0] pos) δ (isNon d) δ1 := fun F R H σ Q s k =>
  (pt_cmpR op_isN peW pe_non (nomark _)).w (ha F R H σ _ s fun x R1 H1 t1 s1 ix => ⟨rfl, _, rfl, by rw [is_non ix]; exact k R1 H1 t1 s1⟩)
theorem de_isNone (ha : DE X a δ d δ1) : DE X (.Compare a [.Is] [.Constant .none j p0] pos) δ (.bl (isNon d)) δ1 := fun F R H σ Q s k =>
  (pe_cmpR op_isN peW pe_non (nomark _)).w (ha F R H σ _ s fun x R1 H1 t1 s1 ix => ⟨rfl, by rw [is_non ix]; exact k _ R1 H1 t1 s1 (.bl _)⟩)
theorem dt_notNone (ha : DE X a δ d δ1) : DT X (.Compare a [.IsNot] [.Constant .none j p0] pos) δ (!isNon d) δ1 := fun F R H σ Q s k =>
  (pt_cmpR op_notN peW pe_non (nomark _)).w (ha F R H σ _ s fun x R1 H1 t1 s1 ix => ⟨rfl, _, rfl, by rw [is_non ix]; exact k R1 H1 t1 s1⟩)
theorem de_notNone (ha : DE X a δ d δ1) : DE X (.Compare a [.IsNot] [.Constant .none j p0] pos) δ (.bl (!isNon d)) δ1 := fun F R H σ Q s k =>
  (pe_cmpR op_notN peW pe_non (nomark _)).w (ha F R H σ _ s fun x R1 H1 t1 s1 ix => ⟨rfl, by rw [is_non ix]; exact k _ R1 H1 t1 s1 (.bl _)⟩)
/-- a or b or c -/
theorem dt_or3 {m n r : Bool} (ha : DT X a δ m δ1) (hb : m = false → DT X b δ1 n δ1) (hc : m = false → n = false → DT X c δ1 r δ1) : DT X (.BoolOp .Or [a, b, c] pos) δ (m || n || r) δ1 := fun F R H σ Q s k =>
  (PW.pt (pw_or ptW (pw_or ptW (pw_or1 ptW)))).w (ha F R H σ _ s fun R1 H1 t1 s1 => by
    cases m with
    | true =>
      rw [if_pos rfl]
      exact k R1 H1 t1 s1
    | false =>
      rw [if_neg Bool.false_ne_true]
      refine hb rfl F R1 H1 σ _ s1 fun R2 H2 t2 s2 => ?_
      cases n with
      | true =>
        rw [if_pos rfl]
        exact k R2 H2 (t1.trans t2) s2
      | false =>
        rw [if_neg Bool.false_ne_true]
        exact hc rfl rfl F R2 H2 σ _ s2 fun R3 H3 t3 s3 => k R3 H3 ((t1.trans t2).trans t3) s3)
theorem dt_and3 {m n r : Bool} (ha : DT X a δ m δ1) (hb : m = true → DT X b δ1 n δ1) (hc : m = true → n = true → DT X c δ1 r δ1) : DT X (.BoolOp .And [a, b, c] pos) δ (m && n && r) δ1 := fun F R H σ Q s k =>
  (PW.pt (pw_and ptW (pw_and ptW (pw_and1 ptW)))).w (ha F R H σ _ s fun R1 H1 t1 s1 => by
    cases m with
    | false =>
      rw [if_neg Bool.false_ne_true]
      exact k R1 H1 t1 s1
    | true =>
      rw [if_pos rfl]
      refine hb rfl F R1 H1 σ _ s1 fun R2 H2 t2 s2 => ?_
      cases n with
      | false =>
        rw [if_neg Bool.false_ne_true]
        exact k R2 H2 (t1.trans t2) s2
      | true =>
        rw [if_pos rfl]
        exact hc rfl rfl F R2 H2 σ _ s2 fun R3 H3 t3 s3 => k R3 H3 ((t1.trans t2).trans t3) s3)
/-! comprehensions without changes: a test and an element for each item -/
theorem do_lcIf {tg it elt : Expr} {ifs : List Expr} {scope : Scope} {own : List (Str × Nat)} {pos : Pos} {δ δ1 δw : List Sl} {items : List D} (b : D → Bool) (g : D → D) (ok : BlkOk X.N X.env.scope scope own) (hi : DI X tg it δ items δ1) (hw : wipeD δ1 (own.map (·.2)) = δw)
    (hs : ∀ d ∈ items, ∃ ws δ3 δ4, (∀ j ∈ ws, j ∈ own.map (·.2)) ∧ (Bk X scope fun Y => DG Y tg d ws δw δ3) ∧ (Bk X scope fun Y => DTs Y ifs δ3 (b d) δ4) ∧ wipeD δ4 (own.map (·.2)) = δw ∧ (b d = true → ∃ δ5, (Bk X scope fun Y => DE Y elt δ4 (g d) δ5) ∧ wipeD δ5 (own.map (·.2)) = δw)) (hz : items.length ≤ 1000000)
    (hc : X.calm = true := by rfl) (hN : X.N.Nodup := by first | assumption | decide) (hf : ∀ x, foldedSetIterable it X.env x = pure x := by intro _; rfl) : DO X (.ListComp elt [⟨tg, it, ifs, 0⟩] scope pos) δ ((items.filter b).map g) δw :=
  do_lc ok hi (fun i acc δ => acc = ((items.take i).filter b).map g ∧ δ = δw) ⟨rfl, hw⟩ (fun i d acc δ2 hd ⟨e1, e2⟩ => by
    subst e1 e2
    obtain ⟨ws, δ3, δ4, h1, h2, h3, h4, h5⟩ := hs d (List.mem_of_getElem? hd)
    refine ⟨ws, δ3, b d, δ4, h1, h2, h3, ?_⟩
    rw [List.take_add_one, hd, List.filter_append, List.map_append]
    cases hb : b d with
    | true =>
      rw [if_pos rfl]
      obtain ⟨δ5, h6, h7⟩ := h5 hb
      refine ⟨g d, δ5, h6, ?_, h7⟩
      show _ = _ ++ (List.filter b [d]).map g
      rw [List.filter_cons_of_pos hb]
      rfl
    | false =>
      rw [if_neg (by decide)]
      refine ⟨?_, h4⟩
      show _ = _ ++ (List.filter b [d]).map g
      rw [List.filter_cons_of_neg (by rw [hb]; decide)]
      exact (List.append_nil _).symm) (fun acc δ2 ⟨e1, e2⟩ => ⟨by rw [e1, List.take_length], e2⟩) hz hc hN hf
end
end Dy

/-! part Ly23 -/
namespace Dy
open PySem PySem.Spec PyProof.Rows L2
section
variable {X : Cx} {e : Expr} {δ δ1 : List Sl} {ds es : List D} {pos : Pos} {y : Str}
/-- own.extend(e) -/
theorem ds_ext {r : Addr} {yp ap tp : Pos} {gs : List D} {Φ : DD} (m : Nat) (hi : δ[m]? = some (.own r gs)) (he : DE X e δ (.lst es) δ1) (hi1 : δ1[m]? = some (.own r ds)) (hz : ds.length + es.length ≤ 1000000) (q : Φ.nx (δ1.set m (.own r (ds ++ es)))) (hN : X.N[m]? = some y := by rfl)
    (hv : Vis X.env.scope y := by first | exact Or.inl rfl | exact Or.inr (Or.inl rfl) | exact Or.inr (Or.inr rfl)) (hyd : (y == ("__debug__" : Str)) = false := by decide) (hyc : (y == ("__classdict__" : Str)) = false := by decide)
    (p0 : ∀ {ta : TE} {t : TA}, PE X (.Name y yp) ta → PA X [e] t → PE X (.Call (.Attribute (.Name y yp) "extend" ap) [e] [] tp) (tBM X.K "list" rExtend ta t)) (hs : swapsWith (.Call (.Attribute (.Name y yp) "extend" ap) [e] [] tp) none pos.line X.env = pure false := by rfl) (hst : starEach [e] X.env = (false, eval e X.env) :: starEach [] X.env := by exact st_any rfl) :
    DS X (.Expr (.Call (.Attribute (.Name y yp) "extend" ap) [e] [] tp) pos) δ Φ := fun F R H σ E s k =>
  (ps_expr (p0 (pe_var hN hv hyd hyc) paW) hs).w ⟨.ref r, (s.at_ m _ hi).1, by
    obtain ⟨z1, z2, z3, xs, z4, ia⟩ := s.at_ m _ hi
    exact .inl ⟨rfl, xs, SqL.of z4⟩, (da_one he hst) F R H σ _ s fun vs R1 H1 t1 s1 iv => by
    cases iv with
    | cons i1 i2 =>
      cases i2
      cases i1 with
      | @lst b zs _ qb ib =>
        obtain ⟨z1, z2, z3, xs, z4, ia⟩ := s1.at_ m _ hi1
        exact ⟨r, b, xs, zs, rfl, rfl, z4, s1.rg _ _ qb, by rw [ia.len, ib.len, sizeLine_eq]; omega, k.nx R1 _ σ _ t1 (s1.updO hi1 (ia.app ib)) q⟩⟩
/-- name = [.. if ..], without changes -/
theorem ds_lcIf {i : Nat} {py : Pos} {tg it elt : Expr} {ifs : List Expr} {scope : Scope} {own : List (Str × Nat)} {spos : Pos} {δw : List Sl} {items : List D} {Φ : DD} (b : D → Bool) (g : D → D) (hy : X.N[i]? = some y) (ok : BlkOk X.N X.env.scope scope own) (hi : DI X tg it δ items δ1) (hw : wipeD δ1 (own.map (·.2)) = δw)
    (hs : ∀ d ∈ items, ∃ ws δ3 δ4, (∀ j ∈ ws, j ∈ own.map (·.2)) ∧ (Bk X scope fun Y => DG Y tg d ws δw δ3) ∧ (Bk X scope fun Y => DTs Y ifs δ3 (b d) δ4) ∧ wipeD δ4 (own.map (·.2)) = δw ∧ (b d = true → ∃ δ5, (Bk X scope fun Y => DE Y elt δ4 (g d) δ5) ∧ wipeD δ5 (own.map (·.2)) = δw)) (hz : items.length ≤ 1000000)
    (q : ∀ p, Φ.nx (δw.set i (.own p ((items.filter b).map g))))
    (hyl : X.env.scope.names.lookup y = some .local := by rfl) (hsw : swapsWith (.ListComp elt [⟨tg, it, ifs, 0⟩] scope pos) (some (.Name y py)) spos.line X.env = pure true := by exact sw_true rfl rfl rfl (by decide +kernel))
    (hc : X.calm = true := by rfl) (hN : X.N.Nodup := by first | assumption | decide) (hf : ∀ x, foldedSetIterable it X.env x = pure x := by intro _; rfl) : DS X (.Assign [.Name y py] (.ListComp elt [⟨tg, it, ifs, 0⟩] scope pos) spos) δ Φ :=
  ds_setLc hy ok hi (fun i acc δ => acc = ((items.take i).filter b).map g ∧ δ = δw) ⟨rfl, hw⟩ (fun i d acc δ2 hd ⟨e1, e2⟩ => by
    subst e1 e2
    obtain ⟨ws, δ3, δ4, h1, h2, h3, h4, h5⟩ := hs d (List.mem_of_getElem? hd)
    refine ⟨ws, δ3, b d, δ4, h1, h2, h3, ?_⟩
    rw [List.take_add_one, hd, List.filter_append, List.map_append]
    cases hb : b d with
    | true =>
      rw [if_pos rfl]
      obtain ⟨δ5, h6, h7⟩ := h5 hb
      refine ⟨g d, δ5, h6, ?_, h7⟩
      show _ = _ ++ (List.filter b [d]).map g
      rw [List.filter_cons_of_pos hb]
      rfl
    | false =>
      rw [if_neg (by decide)]
      refine ⟨?_, h4⟩
      show _ = _ ++ (List.filter b [d]).map g
      rw [List.filter_cons_of_neg (by rw [hb]; decide)]
      exact (List.append_nil _).symm) (fun acc δ2 ⟨e1, e2⟩ => ⟨by rw [e1, List.take_length], e2⟩) hz q hyl hsw hc hN hf
end
end Dy

/-! part Bs1 -/
namespace Bs
open PySem PySem.Spec PyProof.Rows L2
/-! sets whose members are tuples of numbers, None and such tuples: as many as a table of 128 slots takes (76) -/
mutual
def numK : NestedKey → Bool
  | .none => true
  | .num _ => true
  | .text _ => false
  | .tup ks => numKs ks
def numKs : List NestedKey → Bool
  | [] => true
  | k :: ks => numK k && numKs ks
end
section
variable {P : Program} {w : World}
/-- a question that has one answer, whoever asks -/
def Asks (P : Program) (w : World) (m : Sem Bool) (b : Bool) (s : Shared) : Prop := ∀ (A : Around) (E : Value → Shared → Prop) (Q : Bool → Shared → Prop), Q b s → wpAny (model P w) A m Q E s
theorem Asks.pure {b : Bool} {s : Shared} : Asks P w (Pure.pure b) b s := fun _ _ _ h => wpAny_pure h
theorem stated_atom (n : Nat) {v : Value} (h : ∀ a, v ≠ .ref a) : ofAClassStatement n v = Pure.pure false := by
  cases v with
  | ref a => exact absurd rfl (h a)
  | _ => cases n <;> rfl
theorem stated_tup {n : Nat} {s : Shared} {a : Addr} {o : Obj} {vs : Array Value} {m : Nat} (ho : s.heap.get? a = some o) (hc : o.cls = .type "tuple") (hd : o.data = .seq vs m) (hq : ∀ v ∈ vs.toList, Asks P w (ofAClassStatement n v) false s) :
    Asks P w (ofAClassStatement (n + 1) (.ref a)) false s := fun A E Q h => by
  unfold ofAClassStatement
  refine wpAny_bind (wpAny_typeOf (⟨o, ho, hc⟩ : s.TypeIs (.ref a) "tuple") ?_)
  dsimp only
  have e : (("tuple" : String) == "tuple") = true := by decide
  simp only [e, if_true, Bool.not_true, Bool.false_eq_true, if_false]
  try refine wpAny_bind (wpAny_pure ?_)
  try simp only [Bool.not_true, Bool.false_eq_true, if_false]
  show wpAny _ _ (seqItems? (.ref a) >>= _) _ _ s
  refine wpAny_bind (wpAny_seqItems ho hd ?_)
  dsimp only
  refine wpAny_bind ?_
  show wpAny _ _ (forIn vs _ _) _ _ s
  rw [← Array.forIn_toList]
  refine wpAny_forIn_list _ (fun rest r s' => r.1 = none ∧ s' = s ∧ ∀ v ∈ rest, Asks P w (ofAClassStatement n v) false s) _ ?_ ?_ _ _ ⟨rfl, rfl, hq⟩
  · rintro v rest r s' ⟨hr, rfl, hall⟩
    refine wpAny_bind (hall v List.mem_cons_self _ _ _ ?_)
    simp only [Bool.false_eq_true, if_false]
    exact wpAny_pure ⟨rfl, rfl, fun u hu => hall u (List.mem_cons_of_mem _ hu)⟩
  · rintro ⟨r1, r2⟩ s' ⟨hr, rfl, _⟩
    simp only at hr
    subst hr
    exact wpAny_pure h
mutual
theorem stated_key : ∀ (k : NestedKey) (v : Value) (n : Nat) (s : Shared), NestedIs s.heap k v → k.depth ≤ n → Asks P w (ofAClassStatement n v) false s
  | .none, _, n, s, x, _ => by cases x; rw [stated_atom n (by simp)]; exact .pure
  | .num i, _, n, s, x, _ => by cases x <;> (rw [stated_atom n (by simp)]; exact .pure)
  | .text y, _, n, s, x, _ => by cases x; rw [stated_atom n (by simp)]; exact .pure
  | .tup ks, _, n, s, x, hn => by
    cases x with
    | tup hg hc hd hk =>
      simp only [NestedKey.depth] at hn
      cases n with
      | zero => omega
      | succ n => exact stated_tup hg hc hd (stated_keys ks _ n s hk (by omega))
theorem stated_keys : ∀ (ks : List NestedKey) (vs : List Value) (n : Nat) (s : Shared), NestedAll s.heap ks vs → NestedKey.depthAll ks ≤ n → ∀ v ∈ vs, Asks P w (ofAClassStatement n v) false s
  | [], _, n, s, x, _, v, hv => by cases x; cases hv
  | k :: ks, _, n, s, x, hn, v, hv => by
    cases x with
    | cons x1 x2 =>
      simp only [NestedKey.depthAll] at hn
      rcases List.mem_cons.mp hv with e | hv
      · rw [e]; exact stated_key k _ n s x1 (by omega)
      · exact stated_keys ks _ n s x2 (by omega) v hv
end
theorem byval_tup {n : Nat} {s : Shared} {a : Addr} {o : Obj} {vs : Array Value} {m : Nat} (ho : s.heap.get? a = some o) (hc : o.cls = .type "tuple") (hd : o.data = .seq vs m) (hq : ∀ v ∈ vs.toList, Asks P w (hashByValue n v) true s) :
    Asks P w (hashByValue (n + 1) (.ref a)) true s := fun A E Q h => by
  unfold hashByValue
  refine wpAny_bind (wpAny_specialOf (⟨o, ho, hc⟩ : s.TypeIs (.ref a) "tuple") F.slot_tuple_hash.lookup ?_)
  show wpAny _ _ (seqItems? (.ref a) >>= _) _ _ s
  refine wpAny_bind (wpAny_seqItems ho hd ?_)
  refine wpAny_bind ?_
  show wpAny _ _ (forIn vs _ _) _ _ s
  rw [← Array.forIn_toList]
  refine wpAny_forIn_list _ (fun rest r s' => r.1 = none ∧ s' = s ∧ ∀ v ∈ rest, Asks P w (hashByValue n v) true s) _ ?_ ?_ _ _ ⟨rfl, rfl, hq⟩
  · rintro v rest r s' ⟨hr, rfl, hall⟩
    refine wpAny_bind (hall v List.mem_cons_self _ _ _ ?_)
    simp only [Bool.not_true, Bool.false_eq_true, if_false]
    exact wpAny_pure ⟨rfl, rfl, fun u hu => hall u (List.mem_cons_of_mem _ hu)⟩
  · rintro ⟨r1, r2⟩ s' ⟨hr, rfl, _⟩
    simp only at hr
    subst hr
    exact wpAny_pure h
mutual
theorem byval_key : ∀ (k : NestedKey) (v : Value) (n : Nat) (s : Shared), NestedIs s.heap k v → k.depth ≤ n → numK k = true → Asks P w (hashByValue n v) true s
  | .none, _, n, s, x, _, _ => by cases x; cases n <;> exact .pure
  | .num i, _, n, s, x, _, _ => by cases x <;> cases n <;> exact .pure
  | .text y, _, n, s, x, _, hx => by cases hx
  | .tup ks, _, n, s, x, hn, hx => by
    cases x with
    | tup hg hc hd hk =>
      simp only [NestedKey.depth] at hn
      cases n with
      | zero => omega
      | succ n => exact byval_tup hg hc hd (byval_keys ks _ n s hk (by omega) hx)
theorem byval_keys : ∀ (ks : List NestedKey) (vs : List Value) (n : Nat) (s : Shared), NestedAll s.heap ks vs → NestedKey.depthAll ks ≤ n → numKs ks = true → ∀ v ∈ vs, Asks P w (hashByValue n v) true s
  | [], _, n, s, x, _, _, v, hv => by cases x; cases hv
  | k :: ks, _, n, s, x, hn, hx, v, hv => by
    cases x with
    | cons x1 x2 =>
      simp only [NestedKey.depthAll] at hn
      obtain ⟨n1, n2⟩ : numK k = true ∧ numKs ks = true := by
        have hx' : (numK k && numKs ks) = true := hx
        rw [Bool.and_eq_true] at hx'
        exact hx'
      rcases List.mem_cons.mp hv with e | hv
      · rw [e]; exact byval_key k _ n s x1 (by omega) n1
      · exact byval_keys ks _ n s x2 (by omega) n2 v hv
end
/-- the tuple at a is the key k -/
structure MK (h : Heap) (a : Addr) (k : NestedKey) : Prop where
  is : NestedIs h k (.ref a)
  dp : k.depth ≤ 8
  nm : numK k = true
theorem MK.kind {h : Heap} {a : Addr} {k : NestedKey} (x : MK h a k) : (nestedKind P w).is h k a := ⟨x.is, x.dp⟩
theorem MK.at {h h' : Heap} {a : Addr} {k : NestedKey} (x : MK h a k) (hk : ∀ a o vs n, h.get? a = some o → o.data = .seq vs n → h'.get? a = some o) : MK h' a k := ⟨NestedIs.at hk _ _ x.is, x.dp, x.nm⟩
theorem MK.keep {h h' : Heap} {a : Addr} {k : NestedKey} (x : MK h a k) (hk : ∀ a o, h.get? a = some o → h'.get? a = some o) : MK h' a k := x.at fun a o _ _ e _ => hk a o e
theorem MK.inj {h : Heap} {a : Addr} {k k' : NestedKey} (x : MK h a k) (y : MK h a k') : k = k' := NestedIs.inj _ _ _ x.is y.is
theorem MK.but {h h' : Heap} {a d : Addr} {k : NestedKey} {o : Obj} {es : Array (Int × Value)} {ep : Nat} {t : SetTable} (x : MK h a k) (ho : h.get? d = some o) (hd : o.data = .set es ep t) (hs : Heap.SameBut d h h') : MK h' a k :=
  x.at fun b ob vs n hb hc => (hs.2 b fun e => by
    subst e
    rw [ho] at hb
    cases hb
    rw [hd] at hc
    cases hc).trans hb
variable {A : Around} {E : Value → Shared → Prop} {s : Shared}
/-- a search among such tuples shows nothing -/
theorem shows_key {k : NestedKey} {b : Addr} {Q : Bool → Shared → Prop} (hk : MK s.heap b k) {ys : List Value} (hy : ∀ y ∈ ys, ∃ k' c, y = Value.ref c ∧ MK s.heap c k') (h : Q false s) : wpAny (model P w) A (searchCouldBeSeen (.ref b) ys) Q E s := by
  unfold searchCouldBeSeen
  refine wpAny_bind ?_
  refine wpAny_forIn_list _ (fun rest r s' => r.1 = none ∧ s' = s ∧ ∀ y ∈ rest, ∃ k' c, y = Value.ref c ∧ MK s.heap c k') _ ?_ ?_ _ _ ⟨rfl, rfl, hy⟩
  · rintro v rest r s' ⟨hr, rfl, hall⟩
    obtain ⟨k', c, rfl, hc⟩ := hall v List.mem_cons_self
    have rest' : ∀ y ∈ rest, ∃ k' c, y = Value.ref c ∧ MK s'.heap c k' := fun u hu => hall u (List.mem_cons_of_mem _ hu)
    dsimp only
    by_cases hv : (b == c || (carriedByValue (.ref b) && carriedByValue (.ref c))) = true
    · refine wp_if_pos hv ?_
      exact wpAny_pure ⟨rfl, rfl, rest'⟩
    · refine wp_if_neg hv ?_
      refine wpAny_bind ((nestedKind P w).quiet hk.kind ?_)
      simp only [Bool.not_true, Bool.false_eq_true, if_false]
      refine wpAny_bind ((nestedKind P w).quiet hc.kind ?_)
      simp only [Bool.not_true, Bool.false_eq_true, if_false]
      refine wpAny_bind (stated_key k _ 8 s' hk.is hk.dp A E _ ?_)
      simp only [Bool.false_eq_true, if_false]
      refine wpAny_bind (stated_key k' _ 8 s' hc.is hc.dp A E _ ?_)
      simp only [Bool.false_eq_true, if_false]
      exact wpAny_pure ⟨rfl, rfl, rest'⟩
  · rintro ⟨r1, r2⟩ s' ⟨hr, rfl, _⟩
    simp only at hr
    subst hr
    exact wpAny_pure h
end
end Bs

/-! part Tb1 -/
namespace Tb
open PySem PySem.Spec PyProof.Rows L2
/-! tables of up to 512 slots -/
def M4 (m : Nat) : Prop := MaskOk m ∨ m = 511
theorem M4.odd {m : Nat} (h : M4 m) : m % 2 = 1 := h.elim mask_odd fun e => by rw [e]
theorem M4.le {m : Nat} (h : M4 m) : 7 ≤ m ∧ m ≤ 511 := by
  rcases h with (e | e | e) | e <;> omega
/-- the round that begins at i -/
def rnd : Nat → Nat → List Nat
  | 0, _ => []
  | n + 1, i => i :: rnd n ((i * 5 + 1) % 512)
theorem rnd_at : ∀ (n i k : Nat), k < n → (rnd n i)[k]? = some (lcgI 511 i k)
  | n + 1, i, 0, _ => rfl
  | n + 1, i, k + 1, h => by
    show (rnd n ((i * 5 + 1) % 512))[k]? = _
    rw [rnd_at n _ k (by omega)]
    have go : ∀ (k i : Nat), lcgI 511 ((i * 5 + 1) % 512) k = lcgI 511 i (k + 1) := fun k => by
      induction k with
      | zero => exact fun _ => rfl
      | succ k ih =>
        intro i
        show (lcgI 511 ((i * 5 + 1) % 512) k * 5 + 1) % 512 = (lcgI 511 i (k + 1) * 5 + 1) % 512
        rw [ih]
    exact congrArg some (go k i)
theorem rnd_all : ((List.range 512).all fun j => (rnd 512 0).contains j) = true := by decide +kernel
theorem rnd_back : lcgI 511 0 512 = 0 := by decide +kernel
theorem from0 {j : Nat} (h : j ≤ 511) : ∃ k, k ≤ 511 ∧ lcgI 511 0 k = j := by
  have z := List.all_eq_true.mp rnd_all j (List.mem_range.mpr (by omega))
  obtain ⟨k, hk⟩ := List.mem_iff_getElem?.mp (List.contains_iff_mem.mp z)
  have len : (rnd 512 0).length = 512 := by decide +kernel
  have hk2 : k < 512 := by
    have := (List.getElem?_eq_some_iff.mp hk).1
    omega
  rw [rnd_at 512 0 k hk2] at hk
  exact ⟨k, by omega, Option.some.inj hk⟩
theorem lcg_sum (m i : Nat) : ∀ a b, lcgI m i (a + b) = lcgI m (lcgI m i a) b
  | a, 0 => rfl
  | a, b + 1 => by
    show (lcgI m i (a + b) * 5 + 1) % (m + 1) = _
    rw [lcg_sum m i a b]
    rfl
theorem meets511 {i j : Nat} (hi : i ≤ 511) (hj : j ≤ 511) : ∃ k, k ≤ 511 ∧ lcgI 511 i k = j := by
  obtain ⟨a, ha, rfl⟩ := from0 hi
  obtain ⟨b, hb, rfl⟩ := from0 hj
  by_cases q : a ≤ b
  · exact ⟨b - a, by omega, by rw [← lcg_sum]; congr 1; omega⟩
  · refine ⟨512 - a + b, by omega, ?_⟩
    rw [← lcg_sum, show a + (512 - a + b) = 512 + b by omega, lcg_sum, rnd_back]
theorem M4.all {m : Nat} (h : M4 m) {i j : Nat} (hi : i ≤ m) (hj : j ≤ m) : ∃ k, k ≤ m ∧ lcgI m i k = j := by
  rcases h with h | e
  · exact lcgI_all h hi hj
  · subst e
    exact meets511 hi hj
theorem M4.runs {m : Nat} (hm : M4 m) (h : Int) {j : Nat} (hj : j ≤ m) : ∃ n, n ≤ m + 12 ∧ runI m (SetTable.bits h) n = j := by
  have r12 := runI_le m (SetTable.bits h) 12
  obtain ⟨k, hk, e⟩ := hm.all r12 hj
  refine ⟨12 + k, by omega, ?_⟩
  rw [runI_tail (bits_lt h), e]
theorem M4.nth {m : Nat} (hm : M4 m) (h : Int) {j : Nat} (hj : j ≤ m) : ∃ k, k < 10 * SetTable.turns m ∧ way m h k = j := by
  obtain ⟨n, hn, e⟩ := hm.runs h hj
  obtain ⟨k, hk, q⟩ := run_nth m (SetTable.bits h) n
  refine ⟨k, ?_, ?_⟩
  · unfold SetTable.turns
    omega
  · show (L2.nth m _ k).j = j
    rw [q]
    exact e
theorem way_in {m : Nat} (h : Int) (k : Nat) : way m h k ≤ m := by
  have b0 : SetTable.bits h % (m + 1) < m + 1 := Nat.mod_lt _ (by omega)
  have r := runEnd_bd (m := m) (i := SetTable.bits h % (m + 1)) (by omega)
  have s : (runAt m (SetTable.bits h % (m + 1)) (SetTable.bits h)).j + (runAt m (SetTable.bits h % (m + 1)) (SetTable.bits h)).more ≤ m := by
    show SetTable.bits h % (m + 1) + (SetTable.runEnd m _ - _) ≤ m
    omega
  have z := nth_in k _ s
  exact Nat.le_trans (Nat.le_add_right _ _) z
/-- a table from whose hashes all its slots are found -/
structure TabG (t : SetTable) (hs : List Int) : Prop where
  ris : Ris t.place.toList
  dm : t.dummies = #[]
  sz : t.place.size = hs.length
  mok : M4 t.mask
  bd : ∀ x ∈ t.place.toList, x ≤ t.mask
  reach : ∀ (i : Nat) (h : Int) (j : Nat), hs[i]? = some h → t.place.toList[i]? = some j → ∃ k, way t.mask h k = j ∧ ∀ c, c < k → way t.mask h c ∈ t.place.toList
section
variable {t : SetTable} {hs : List Int}
theorem TabG.len (T : TabG t hs) : t.place.toList.length = hs.length := by rw [Array.length_toList, T.sz]
theorem TabG.first (T : TabG t hs) (few : hs.length ≤ t.mask) (h : Int) : ∃ K, K < 10 * SetTable.turns t.mask ∧ way t.mask h K ∉ t.place.toList ∧ ∀ c, c < K → way t.mask h c ∈ t.place.toList := by
  have l := T.len
  obtain ⟨j, hj, out⟩ := st_missing t.place.toList (t.mask + 1) (by omega)
  obtain ⟨k, hk, e⟩ := T.mok.nth h (j := j) (by omega)
  obtain ⟨K, a, b, c⟩ := st_least (p := fun c => way t.mask h c ∉ t.place.toList) k (by rw [e]; exact out)
  exact ⟨K, by omega, b, fun q hq => Classical.byContradiction fun z => c q hq z⟩
theorem TabG.before (T : TabG t hs) {h : Int} {K i j : Nat} (free : way t.mask h K ∉ t.place.toList) (hi : hs[i]? = some h) (hj : t.place.toList[i]? = some j) : ∃ k, k < K ∧ way t.mask h k = j := by
  obtain ⟨k, e, in_⟩ := T.reach i h j hi hj
  have ne : k ≠ K := fun q => free (by rw [← q, e]; exact List.mem_of_getElem? hj)
  have le : ¬ K < k := fun q => free (in_ K q)
  exact ⟨k, by omega, e⟩
/-- one more -/
theorem TabG.put (T : TabG t hs) {h : Int} {K : Nat} (free : way t.mask h K ∉ t.place.toList) (full : ∀ c, c < K → way t.mask h c ∈ t.place.toList) {b : Nat} (eb : SetTable.below t.place (way t.mask h K) = b) :
    (t.put (way t.mask h K)).2 = b ∧ b ≤ hs.length ∧ TabG (t.put (way t.mask h K)).1 (hs.take b ++ h :: hs.drop b) ∧
    (t.put (way t.mask h K)).1.mask = t.mask ∧ (t.put (way t.mask h K)).1.led = t.led ∧ (t.put (way t.mask h K)).1.plain = t.plain ∧ (t.put (way t.mask h K)).1.moves = t.moves ∧ (t.put (way t.mask h K)).1.finger = t.finger ∧
    (t.put (way t.mask h K)).1.fill = hs.length + 1 := by
  have jm := way_in (m := t.mask) h K
  generalize ej : way t.mask h K = j at *
  obtain ⟨cut, _, _⟩ := below_cut T.ris j
  rw [eb] at cut
  have l := T.len
  have b1 : b ≤ hs.length := by rw [← T.sz]; exact cut
  have b2 : b ≤ t.place.toList.length := by rw [l]; exact b1
  have new : t.place[SetTable.below t.place j]? ≠ some j := fun q => free (List.mem_of_getElem? (i := SetTable.below t.place j) (by rw [Array.getElem?_toList]; exact q))
  have pl := put_place t j
  rw [eb] at pl
  have sz : (t.put j).1.place.size = hs.length + 1 := by rw [← Array.length_toList, pl, len_ins _ b2, l]
  have old : ∀ x, x ∈ t.place.toList → x ∈ (t.put j).1.place.toList := fun x q => by rw [pl]; exact mem_ins.mpr (.inr q)
  have here : j ∈ (t.put j).1.place.toList := by rw [pl]; exact mem_ins.mpr (.inl rfl)
  have fill : (t.put j).1.fill = hs.length + 1 := by
    show (t.put j).1.place.size + (t.put j).1.dummies.size = _
    rw [sz, put_dm T.dm j]
    rfl
  refine ⟨eb, b1, { ris := ris_insert T.ris new, dm := put_dm T.dm j, sz := ?_, mok := T.mok, bd := ?_, reach := ?_ }, rfl, rfl, rfl, rfl, rfl, fill⟩
  · rw [sz, len_ins _ b1]
  · intro x hx
    rw [pl] at hx
    exact (mem_ins.mp hx).elim (fun q => by rw [q]; exact jm) (T.bd x)
  · intro i g y g1 g2
    rw [tins_get hs b1] at g1
    rw [pl, tins_get _ b2] at g2
    show ∃ k, way t.mask g k = y ∧ ∀ c, c < k → way t.mask g c ∈ (t.put j).1.place.toList
    rcases Nat.lt_trichotomy i b with q | q | q
    · rw [if_pos q] at g1 g2
      obtain ⟨k, e, z⟩ := T.reach i g y g1 g2
      exact ⟨k, e, fun c hc => old _ (z c hc)⟩
    · rw [if_neg (by omega), if_pos q] at g1 g2
      cases g1
      cases g2
      exact ⟨K, ej, fun c hc => old _ (full c hc)⟩
    · rw [if_neg (by omega), if_neg (by omega)] at g1 g2
      obtain ⟨k, e, z⟩ := T.reach (i - 1) g y g1 g2
      exact ⟨k, e, fun c hc => old _ (z c hc)⟩
end
/-! all laid anew -/
section
variable {m : Nat}
/-- the first free slot of a way is the one that is taken -/
theorem free_at (hm : M4 m) (owner : Array (Option Nat)) (h : Int) {j : Nat} (hj : j ≤ m) (hf : oAt owner j = none) :
    ∃ K, SetTable.layClean.free m owner (SetTable.turns m) (SetTable.bits h % (m + 1)) (SetTable.bits h) = some (way m h K) ∧ oAt owner (way m h K) = none ∧ ∀ c, c < K → oAt owner (way m h c) ≠ none := by
  obtain ⟨n, hn, e⟩ := hm.runs h hj
  have at_n : way m h (off m (SetTable.bits h % (m + 1)) (SetTable.bits h) n) = j := by
    unfold way
    rw [nth_off, itL_run]
    exact e
  obtain ⟨K, a, b, c⟩ := st_least (p := fun c => oAt owner (way m h c) = none) (off m (SetTable.bits h % (m + 1)) (SetTable.bits h) n) (by rw [at_n]; exact hf)
  have hn2 : n < SetTable.turns m := by unfold SetTable.turns; omega
  have yes : (oAt owner (way m h K)).isNone = true := by rw [b]; rfl
  have noc : ∀ c, c < K → (oAt owner (way m h c)).isNone = false := fun q hq => by
    cases z : oAt owner (way m h q) with
    | none => exact absurd z (c q hq)
    | some _ => rfl
  exact ⟨K, free_spec m owner _ n _ _ K hn2 a noc yes, b, c⟩
theorem own_next (hm : M4 m) {done : List Int} {owner : Array (Option Nat)} (W : Own m done owner) (few : done.length ≤ m) (h : Int) :
    ∃ j, SetTable.layClean.free m owner (SetTable.turns m) (SetTable.bits h % (m + 1)) (SetTable.bits h) = some j ∧ Own m (done ++ [h]) (owner.setIfInBounds j (some done.length)) := by
  obtain ⟨ps, lp, inp⟩ := W.ps
  obtain ⟨y, hy, out⟩ := st_missing ps (m + 1) (by omega)
  have fy : oAt owner y = none := Classical.byContradiction fun z => out (inp y (by omega) z)
  obtain ⟨K, e, eK, bef⟩ := free_at hm owner h (j := y) (by omega) fy
  have jm := way_in (m := m) h K
  generalize hj : way m h K = j at *
  have js : j < owner.size := by rw [W.sz]; omega
  have me := oAt_set_self (some done.length) js
  have keep : ∀ i, oAt owner i ≠ none → oAt (owner.setIfInBounds j (some done.length)) i ≠ none := fun i z => by
    by_cases q : i = j
    · rw [q, me]; simp
    · rw [oAt_set_ne _ q]; exact z
  have l1 : (done ++ [h]).length = done.length + 1 := by simp
  refine ⟨j, e, { sz := by rw [Array.size_setIfInBounds, W.sz], at_ := ?_, all := ?_, ps := ⟨j :: ps, by rw [List.length_cons, lp, l1], ?_⟩ }⟩
  · intro i k hi q
    by_cases d : i = j
    · rw [d, me] at q
      cases q
      exact ⟨h, K, by simp, by rw [hj, d], fun c hc => keep _ (bef c hc)⟩
    · rw [oAt_set_ne _ d] at q
      obtain ⟨g, k2, a1, a2, a3⟩ := W.at_ i k hi q
      have lk := (List.getElem?_eq_some_iff.mp a1).1
      exact ⟨g, k2, by rw [List.getElem?_append_left lk]; exact a1, a2, fun c hc => keep _ (a3 c hc)⟩
  · intro k hk
    rw [l1] at hk
    by_cases d : k < done.length
    · obtain ⟨i, hi, q⟩ := W.all k d
      have ne : i ≠ j := fun z => by rw [z, eK] at q; cases q
      exact ⟨i, hi, by rw [oAt_set_ne _ ne]; exact q⟩
    · have ek : k = done.length := by omega
      exact ⟨j, jm, by rw [ek]; exact me⟩
  · intro i hi q
    by_cases d : i = j
    · rw [d]; exact List.mem_cons_self
    · rw [oAt_set_ne _ d] at q
      exact List.mem_cons_of_mem _ (inp i hi q)
theorem own_fold (hm : M4 m) : ∀ (rest done : List Int) (owner : Array (Option Nat)), Own m done owner → done.length + rest.length ≤ m →
    ∃ o2, rest.foldl (stepF m) (some (owner, done.length)) = some (o2, (done ++ rest).length) ∧ Own m (done ++ rest) o2
  | [], done, owner, W, _ => ⟨owner, by simp, by simpa using W⟩
  | h :: rest, done, owner, W, few => by
    have few' : done.length + (rest.length + 1) ≤ m := few
    obtain ⟨j, e, W1⟩ := own_next hm W (by omega) h
    have l1 : (done ++ [h]).length = done.length + 1 := by simp
    obtain ⟨o2, f, W2⟩ := own_fold hm rest (done ++ [h]) _ W1 (by omega)
    rw [l1, List.append_assoc] at f
    rw [List.append_assoc] at W2
    refine ⟨o2, ?_, W2⟩
    rw [List.foldl_cons, stepF_some e]
    exact f
theorem lay_own (hm : M4 m) {hs : Array Int} (few : hs.size ≤ m) : ∃ owner, SetTable.layClean m hs = some owner ∧ Own m hs.toList owner := by
  have few' : ([] : List Int).length + hs.toList.length ≤ m := by simpa using few
  obtain ⟨o2, f, W⟩ := own_fold hm hs.toList [] _ (Own.init m) few'
  refine ⟨o2, ?_, by simpa using W⟩
  rw [layClean_eq]
  have f' : hs.toList.foldl (stepF m) (some (Array.replicate (m + 1) none, 0)) = some (o2, ([] ++ hs.toList).length) := f
  rw [f']
  rfl
theorem relaidG (t : SetTable) {hs : Array Int} {wanted M : Nat} (hw : SetTable.sizeAbove wanted - 1 = M) (hM : M4 M) (few : hs.size ≤ M) :
    ∃ u order, t.relaid hs wanted = some (u, order) ∧ order.toList.Perm (List.range hs.size) ∧ TabG u (order.toList.map fun i => hs.getD i 0) ∧ u.mask = M ∧ u.led = t.led ∧ u.plain = t.plain ∧ u.dummies = #[] := by
  obtain ⟨owner, e, W⟩ := lay_own hM few
  have er : t.relaid hs wanted = some (tabOf t M owner, ((liveOf M owner).map (·.2)).toArray) := by
    rw [relaid_eq, hw, e]
    rfl
  obtain ⟨r1, r2⟩ := ris_live (fun j => owner.getD j none) (List.range (M + 1)) (by
    unfold Ris
    first | exact List.pairwise_lt_range | exact List.pairwise_lt_range _)
  change Ris ((liveOf M owner).map (·.1)) at r1
  change ∀ x ∈ (liveOf M owner).map (·.1), x ∈ List.range (M + 1) at r2
  have live : ∀ {j k : Nat}, (j, k) ∈ liveOf M owner ↔ j ≤ M ∧ oAt owner j = some k := mem_live W.sz
  have nums : ∀ k, k < hs.size → k ∈ (liveOf M owner).map (·.2) := fun k hk => by
    obtain ⟨j, a, b⟩ := W.all k (by simpa using hk)
    exact List.mem_map.mpr ⟨(j, k), live.mpr ⟨a, b⟩, rfl⟩
  have len : (liveOf M owner).length = hs.size := by
    obtain ⟨ps, p1, p2⟩ := W.ps
    have up : ((liveOf M owner).map (·.1)).length ≤ ps.length := nat_nodup_len _ ps (r1.imp fun z => Nat.ne_of_lt z) fun x hx => by
      obtain ⟨⟨y, k⟩, hq, rfl⟩ := List.mem_map.mp hx
      obtain ⟨a, b⟩ := live.mp hq
      exact p2 y a (by rw [b]; simp)
    have down : (List.range hs.size).length ≤ ((liveOf M owner).map (·.2)).length := nat_nodup_len _ _ List.nodup_range fun k hk => nums k (List.mem_range.mp hk)
    rw [List.length_map, p1] at up
    rw [List.length_map, List.length_range] at down
    have : hs.toList.length = hs.size := Array.length_toList
    omega
  refine ⟨tabOf t M owner, ((liveOf M owner).map (·.2)).toArray, er, perm_range hs.size _ (by show ((liveOf M owner).map (·.2)).length = _; rw [List.length_map, len]) nums, { ris := r1, dm := rfl, sz := ?_, mok := hM, bd := ?_, reach := ?_ }, rfl, rfl, rfl, rfl⟩
  · show ((liveOf M owner).map (·.1)).toArray.size = (((liveOf M owner).map (·.2)).map fun i => hs.getD i 0).length
    simp
  · intro x hx
    have := List.mem_range.mp (r2 x hx)
    show x ≤ M
    omega
  · intro i h j g1 g2
    change (((liveOf M owner).map (·.2)).map fun i => hs.getD i 0)[i]? = some h at g1
    change ((liveOf M owner).map (·.1))[i]? = some j at g2
    rw [List.getElem?_map] at g2
    obtain ⟨⟨y, k⟩, hq, rfl⟩ := Option.map_eq_some_iff.mp g2
    rw [List.getElem?_map, List.getElem?_map, hq] at g1
    have eh : hs.getD k 0 = h := Option.some.inj g1
    obtain ⟨a, b⟩ := live.mp (List.mem_of_getElem? hq)
    obtain ⟨g, K, c1, c2, c3⟩ := W.at_ y k a b
    have eg : hs.getD k 0 = g := by
      rw [Array.getD_eq_getD_getElem?, ← Array.getElem?_toList, c1]
      rfl
    rw [eg] at eh
    subst eh
    refine ⟨K, c2, fun c hc => ?_⟩
    show way M g c ∈ (liveOf M owner).map (·.1)
    cases z : oAt owner (way M g c) with
    | none => exact absurd z (c3 c hc)
    | some k2 => exact List.mem_map.mpr ⟨(way M g c, k2), live.mpr ⟨way_in g c, z⟩, rfl⟩
end
theorem size_5 : SetTable.sizeAbove (SetTable.grown 5) = 32 := by decide +kernel
theorem size_19 : SetTable.sizeAbove (SetTable.grown 19) = 128 := by decide +kernel
theorem size_77 : SetTable.sizeAbove (SetTable.grown 77) = 512 := by decide +kernel
end Tb

/-! part Bs2 -/
namespace Bs
open PySem PySem.Spec PyProof.Rows L2 Tb
abbrev rowsK (w : World) (L : List (Addr × NestedKey)) : List (Int × Value) := L.map fun p => (p.2.hash w, Value.ref p.1)
abbrev hashesK (w : World) (L : List (Addr × NestedKey)) : List Int := L.map fun p => p.2.hash w
/-- a set of such tuples, found again from their hashes -/
structure Bg (w : World) (h : Heap) (a : Addr) (L : List (Addr × NestedKey)) (es : Array (Int × Value)) (ep : Nat) (t : SetTable) : Prop where
  ob : ∃ o, h.get? a = some o ∧ o.ExactSet ∧ o.data = .set es ep t
  rows : es.toList = rowsK w L
  tab : TabG t (hashesK w L)
  nd : (L.map (·.2)).Nodup
  key : ∀ p ∈ L, MK h p.1 p.2
  plain : t.plain = true
  led : w.params.followText "set-order" = true ∨ t.led = true
  room : L.length * 5 < t.mask * 3
theorem size_of {w : World} {L : List (Addr × NestedKey)} {es : Array (Int × Value)} (h : es.toList = rowsK w L) : es.size = L.length := by
  have q := congrArg List.length h
  rw [Array.length_toList, List.length_map] at q
  exact q
theorem entry_of {w : World} {L : List (Addr × NestedKey)} {es : Array (Int × Value)} (h : es.toList = rowsK w L) {i : Nat} {p : Addr × NestedKey} (e : L[i]? = some p) : es[i]? = some (p.2.hash w, Value.ref p.1) := by
  rw [← Array.getElem?_toList, h, List.getElem?_map, e]
  rfl
/-- where a search for h is after c steps -/
abbrev st (t : SetTable) (h : Int) (c : Nat) : SetTable.Probe := nth t.mask (runAt t.mask (SetTable.bits h % (t.mask + 1)) (SetTable.bits h)) c
theorem st_add (t : SetTable) (h : Int) (c q : Nat) : nth t.mask (st t h c) q = st t h (c + q) := (nth_add t.mask c _ q).symm
theorem st_dummy (t : SetTable) (h : Int) (c : Nat) : (st t h c).dummy = none := by
  have go : ∀ (n : Nat) (p : SetTable.Probe), p.dummy = none → (nth t.mask p n).dummy = none := by
    intro n
    induction n with
    | zero => exact fun p e => e
    | succ n ih => exact fun p e => ih (adv t.mask p) (by unfold adv; split <;> exact e)
  exact go c _ rfl
section
variable {P : Program} {w : World} {A : Around} {E : Value → Shared → Prop} {s : Shared} {a : Addr} {L : List (Addr × NestedKey)} {es : Array (Int × Value)} {ep : Nat} {t : SetTable}
theorem Bg.fits (R : Bg w s.heap a L es ep t) : t.fits es.size = true := by
  have h1 := R.tab.sz
  rw [List.length_map] at h1
  have h2 := size_of R.rows
  have h3 := R.room
  unfold SetTable.fits SetTable.fill
  rw [R.tab.dm, Bool.and_eq_true, beq_iff_eq, decide_eq_true_eq]
  show t.place.size = es.size ∧ t.place.size + 0 ≤ t.mask
  omega
theorem Bg.gw (R : Bg w s.heap a L es ep t) : ¬ t.gaveWay = true := by
  unfold SetTable.gaveWay
  rw [R.tab.mok.odd]
  decide
/-- the search, from its c-th step on; the next free slot of its way is met at step K -/
theorem srch_from (R : Bg w s.heap a L es ep t) {x : Addr} {k : NestedKey} (hx : MK s.heap x k) (hu : A.units + 8 < cLine) {K : Nat} (hKf : K < 10 * SetTable.turns t.mask) (hK : way t.mask (k.hash w) K ∉ t.place.toList)
    (hKb : ∀ c, c < K → way t.mask (k.hash w) c ∈ t.place.toList) {Q : SetFound → Shared → Prop} (hin : k ∈ L.map (·.2) → Q (.there none) s) (hout : k ∉ L.map (·.2) → Q (.free (way t.mask (k.hash w) K) false) s) :
    ∀ (f c : Nat) (stand : Option SetTable.Probe), stand.getD (t.probeStart (k.hash w)) = st t (k.hash w) c → c ≤ K → K - c < f →
      (∀ (i : Nat) p, L[i]? = some p → p.2 = k → ∃ c', c ≤ c' ∧ c' < K ∧ t.place.toList[i]? = some (way t.mask (k.hash w) c')) →
      wpAny (model P w) A (setSearchFrom a (.ref x) (k.hash w) true f stand) Q E s := by
  obtain ⟨o, ho, hex, hd⟩ := R.ob
  have hfit := R.fits
  have hash_at : ∀ (i : Nat) p, L[i]? = some p → (fun i => (es[i]?.map (·.1)).getD 0) i = p.2.hash w := fun i p e => by
    show (es[i]?.map (·.1)).getD 0 = _
    rw [entry_of R.rows e]
    rfl
  intro f
  induction f with
  | zero => intro c stand _ _ hf; exact absurd hf (Nat.not_lt_zero _)
  | succ f ih =>
    intro c stand hst hc hf hre
    rw [setSearchFrom_succ]
    refine wpAny_bind (wpAny_setState_of ho hd hfit ?_)
    dsimp only
    refine wp_if_neg R.gw ?_
    try refine wpAny_bind (wpAny_pure ?_)
    have j_at : ∀ q, (nth t.mask (st t (k.hash w) c) q).j = way t.mask (k.hash w) (c + q) := fun q => congrArg SetTable.Probe.j (st_add t _ c q)
    have spec := go_spec t R.tab.ris R.tab.dm (fun i => (es[i]?.map (·.1)).getD 0) (k.hash w) (10 * SetTable.turns t.mask) (K - c) (st t (k.hash w) c) (st_dummy t _ c) (by omega)
      (fun q hq => by rw [j_at]; exact hKb (c + q) (by omega)) (by rw [j_at, show c + (K - c) = K by omega]; exact hK)
    have pr : t.probe (fun i => (es[i]?.map (·.1)).getD 0) (k.hash w) (stand.getD (t.probeStart (k.hash w))) = SetTable.probe.go t (fun i => (es[i]?.map (·.1)).getD 0) (k.hash w) (10 * SetTable.turns t.mask) (st t (k.hash w) c) := by rw [hst]; rfl
    rw [pr]
    rcases spec with ⟨q, i, hq, hi, hh, hno, hpr⟩ | ⟨hno, hpr⟩
    · rw [j_at] at hi
      rw [hpr, j_at, st_add]
      dsimp only
      have hil : i < L.length := by
        have h1 : i < t.place.toList.length := (List.getElem?_eq_some_iff.mp hi).1
        have h2 := R.tab.sz
        rw [List.length_map] at h2
        rw [Array.length_toList] at h1
        omega
      obtain ⟨p, hp⟩ : ∃ p, L[i]? = some p := ⟨_, List.getElem?_eq_getElem hil⟩
      have hmem := List.mem_of_getElem? hp
      have rest : wpAny (model P w) A (searchRest a (.ref x) (k.hash w) true f es t (way t.mask (k.hash w) (c + q)) i (st t (k.hash w) (c + (q + 1)))) Q E s := by
        unfold searchRest
        rw [entry_of R.rows hp]
        dsimp only
        refine wpAny_bind (wpAny_holding ((nestedKind P w).eqBool hu (R.key p hmem).kind hx.kind ?_))
        refine wpAny_bind (wpAny_setState_of ho hd hfit ?_)
        dsimp only
        by_cases e : p.2 = k
        · exact wp_if_pos (by simp [e]) (wpAny_pure (hin (List.mem_map.mpr ⟨p, hmem, e⟩)))
        · refine wp_if_neg (by simp [e]) ?_
          try refine wpAny_bind (wpAny_pure ?_)
          rw [sameMem]
          dsimp only
          have hsl : t.slot (way t.mask (k.hash w) (c + q)) = .live i := slot_live R.tab.ris hi
          simp only [if_true, hsl, entry_of R.rows hp]
          refine wpAny_bind (wpAny_isSame_ref_self (wpAny_bind (wpAny_pure ?_)))
          simp only [if_true]
          refine wp_if_neg (by simp [e]) ?_
          refine ih (c + (q + 1)) _ rfl (by omega) (by omega) fun i0 p0 h0 e0 => ?_
          obtain ⟨c', a1, a2, a3⟩ := hre i0 p0 h0 e0
          refine ⟨c', ?_, a2, a3⟩
          rcases Nat.lt_trichotomy c' (c + q) with z | z | z
          · exact absurd ((hash_at i0 p0 h0).trans (congrArg (NestedKey.hash w) e0)) (hno (c' - c) i0 (by omega) (by rw [j_at, show c + (c' - c) = c' by omega]; exact a3))
          · rw [z] at a3
            have s0 := slot_live R.tab.ris a3
            rw [hsl] at s0
            injection s0 with s0
            rw [← s0, hp] at h0
            exact absurd ((congrArg Prod.snd (Option.some.inj h0)).trans e0) e
          · omega
      by_cases hl : t.led = true
      · refine wp_if_neg (by simp [hl]) ?_
        try refine wpAny_bind (wpAny_pure ?_)
        exact rest
      · refine wp_if_pos (by simp [hl]) ?_
        refine wpAny_bind (shows_key hx (fun y hy => ?_) ?_)
        · obtain ⟨e, he, rfl⟩ := List.mem_map.mp hy
          have he1 : e ∈ es ∧ e.1 = k.hash w := by simpa using he
          have he2 : e ∈ es.toList := by simpa using he1.1
          rw [R.rows] at he2
          obtain ⟨p2, hp2, rfl⟩ := List.mem_map.mp he2
          exact ⟨p2.2, p2.1, rfl, R.key p2 hp2⟩
        · refine wp_if_neg (by decide) ?_
          try refine wpAny_bind (wpAny_pure ?_)
          exact rest
    · rw [hpr, j_at, show c + (K - c) = K by omega]
      dsimp only
      refine wpAny_pure (hout fun hm => ?_)
      obtain ⟨p0, h0, e0⟩ := List.mem_map.mp hm
      obtain ⟨i0, hi0, e1⟩ := List.getElem_of_mem h0
      have h1 : L[i0]? = some p0 := by rw [List.getElem?_eq_getElem hi0, e1]
      obtain ⟨c', a1, a2, a3⟩ := hre i0 p0 h1 e0
      exact hno (c' - c) i0 (by omega) (by rw [j_at, show c + (c' - c) = c' by omega]; exact a3) ((hash_at i0 p0 h1).trans (congrArg (NestedKey.hash w) e0))
theorem srch (R : Bg w s.heap a L es ep t) {x : Addr} {k : NestedKey} (hx : MK s.heap x k) (hu : A.units + 8 < cLine) {Q : SetFound → Shared → Prop} (hin : k ∈ L.map (·.2) → Q (.there none) s)
    (hout : ∀ K, k ∉ L.map (·.2) → way t.mask (k.hash w) K ∉ t.place.toList → (∀ c, c < K → way t.mask (k.hash w) c ∈ t.place.toList) → Q (.free (way t.mask (k.hash w) K) false) s) : wpAny (model P w) A (setSearch a (.ref x) (k.hash w) true) Q E s := by
  have hroom := R.room
  obtain ⟨K, hKf, hK, hKb⟩ := R.tab.first (by rw [List.length_map]; omega) (k.hash w)
  have big : 10 * SetTable.turns t.mask ≤ 6000 := by
    unfold SetTable.turns
    have := R.tab.mok.le
    omega
  unfold setSearch
  refine srch_from R hx hu hKf hK hKb hin (fun hn => hout K hn hK hKb) 100000 0 none rfl (Nat.zero_le _) (by omega) fun i p hp e => ?_
  have hi : (hashesK w L)[i]? = some (k.hash w) := by
    show (L.map _)[i]? = _
    rw [List.getElem?_map, hp, ← e]
    rfl
  have hil : i < t.place.toList.length := by
    have h1 : i < L.length := (List.getElem?_eq_some_iff.mp hp).1
    have h2 := R.tab.sz
    rw [List.length_map] at h2
    rw [Array.length_toList]
    omega
  have hj := List.getElem?_eq_getElem hil
  obtain ⟨c, hc, e2⟩ := R.tab.before hK hi hj
  exact ⟨c, Nat.zero_le _, hc, by rw [hj, e2]⟩
end
end Bs

/-! part Bs3 -/
namespace Bs
open PySem PySem.Spec PyProof.Rows L2 Tb
/-- the entries in another order -/
theorem reorder {w : World} (L : List (Addr × NestedKey)) (es : Array (Int × Value)) (order : Array Nat) (hr : es.toList = rowsK w L) (hp : order.toList.Perm (List.range L.length)) :
    ∃ L2, (order.filterMap (es[·]?)).toList = rowsK w L2 ∧ L2.Perm L ∧ hashesK w L2 = order.toList.map fun i => (es.map (·.1)).getD i 0 := by
  have hsz := size_of hr
  have key : ∀ l : List Nat, (∀ i ∈ l, i < L.length) → l.filterMap (fun i => es[i]?) = rowsK w (l.filterMap fun i => L[i]?) ∧ hashesK w (l.filterMap fun i => L[i]?) = l.map fun i => (es.map (·.1)).getD i 0 := by
    intro l hl
    induction l with
    | nil => exact ⟨rfl, rfl⟩
    | cons i l ih =>
      have hi := hl i List.mem_cons_self
      obtain ⟨e1, e2⟩ := ih fun j hj => hl j (List.mem_cons_of_mem _ hj)
      have g : L[i]? = some L[i] := List.getElem?_eq_getElem hi
      have g2 := entry_of hr g
      have g3 : (es.map (·.1)).getD i 0 = (L[i]).2.hash w := by
        have e5 : (es.map (·.1))[i]? = some ((L[i]).2.hash w) := by rw [Array.getElem?_map, g2]; rfl
        simp [Array.getD_eq_getD_getElem?, e5]
      rw [List.filterMap_cons_some g2, List.filterMap_cons_some g]
      refine ⟨?_, ?_⟩
      · rw [e1]
        rfl
      · show (L[i]).2.hash w :: hashesK w _ = _
        rw [e2, List.map_cons, g3]
  obtain ⟨e1, e2⟩ := key order.toList fun i hi => List.mem_range.mp (hp.mem_iff.mp hi)
  refine ⟨_, by first | (rw [Array.toList_filterMap]; exact e1) | simpa using e1, ?_, e2⟩
  have h1 : (order.toList.filterMap fun i => L[i]?).Perm ((List.range L.length).filterMap fun i => L[i]?) := hp.filterMap _
  have h2 : ∀ n, n ≤ L.length → (List.range n).filterMap (fun i => L[i]?) = L.take n := by
    intro n
    induction n with
    | zero => intro _; rfl
    | succ n ih =>
      intro hn
      have g : L[n]? = some L[n] := List.getElem?_eq_getElem hn
      rw [List.range_succ, List.filterMap_append, ih (Nat.le_of_lt hn), List.take_add_one, g, List.filterMap_cons_some g]
      rfl
  rw [h2 _ (Nat.le_refl _), List.take_length] at h1
  exact h1
section
variable {P : Program} {w : World} {A : Around} {E : Value → Shared → Prop} {s : Shared} {a : Addr} {L : List (Addr × NestedKey)} {es : Array (Int × Value)} {ep : Nat} {t : SetTable}
/-- the table laid anew -/
theorem relay {o : Obj} (ho : s.heap.get? a = some o) (hex : o.ExactSet) (hd : o.data = .set es ep t) (hr : es.toList = rowsK w L) (hsz : t.place.size = es.size) (hdm : t.dummies = #[]) (hfl : es.size ≤ t.mask) (nd : (L.map (·.2)).Nodup)
    (key : ∀ p ∈ L, MK s.heap p.1 p.2) (pl : t.plain = true) (ld : w.params.followText "set-order" = true ∨ t.led = true) {wanted M : Nat} (hw : SetTable.sizeAbove wanted - 1 = M) (hM : M4 M) (hw2 : SetTable.sizeAbove wanted ≤ 512) (hn : L.length * 5 < M * 3)
    {Q : Unit → Shared → Prop} (hQ : ∀ h' L' es' ep' t', Heap.SameBut a s.heap h' → Bg w h' a L' es' ep' t' → L'.Perm L → Q () { s with heap := h' }) : wpAny (model P w) A (setRelay a wanted) Q E s := by
  have hsl := size_of hr
  have hfit : t.fits es.size = true := by
    unfold SetTable.fits SetTable.fill
    rw [hdm, Bool.and_eq_true, beq_iff_eq, decide_eq_true_eq]
    show t.place.size = es.size ∧ t.place.size + 0 ≤ t.mask
    omega
  obtain ⟨t', order, e, hp, T, em, el, ep', ed⟩ := relaidG t (hs := es.map (·.1)) (wanted := wanted) hw hM (by rw [Array.size_map, hsl]; omega)
  rw [Array.size_map, hsl] at hp
  obtain ⟨L2, r1, r2, r3⟩ := reorder L es order hr hp
  rw [← r3] at T
  have hs2 : (order.filterMap (es[·]?)).size = es.size := by rw [size_of r1, r2.length_eq, hsl]
  rw [setRelay_eq]
  refine wpAny_bind (wpAny_setState_of ho hd hfit ?_)
  dsimp only
  refine wp_if_neg (by rw [sizeLine_eq]; omega) ?_
  try refine wpAny_bind (wpAny_pure ?_)
  rw [e]
  dsimp only
  refine wpAny_bind ?_
  refine wp_if_neg (by rw [hs2]; simp) ?_
  try refine wpAny_bind (wpAny_pure ?_)
  refine wpAny_pure ?_
  dsimp only
  refine wpAny_storeSet_of ho hd ?_ (by
    rw [hs2, hsl, sizeLine_eq]
    have := hM.le
    omega)
  have sb : Heap.SameBut a s.heap (s.heap.update a (Obj.putSet (order.filterMap (es[·]?)) t')) := Heap.SameBut.update ..
  refine hQ _ L2 (order.filterMap (es[·]?)) (ep + 1) t' sb ⟨⟨_, store_at ho hd, ⟨hex.1, hex.2.1, hex.2.2⟩, rfl⟩, r1, T, (r2.map (·.2)).nodup_iff.mpr nd, fun p hpm => (key p (r2.mem_iff.mp hpm)).but ho hd sb, by rw [ep']; exact pl, by rw [el]; exact ld, ?_⟩ r2
  rw [r2.length_eq, em]
  exact hn
/-- adding -/
theorem add (R : Bg w s.heap a L es ep t) {x : Addr} {k : NestedKey} (hx : MK s.heap x k) (hu : A.units + 8 < cLine) (few : k ∉ L.map (·.2) → L.length < 306) {Q : Bool → Shared → Prop}
    (hQ : ∀ b h' L' es' ep' t', Heap.SameBut a s.heap h' → Bg w h' a L' es' ep' t' → (k ∈ L.map (·.2) → L' = L) → (k ∉ L.map (·.2) → L'.Perm ((x, k) :: L)) → Q b { s with heap := h' }) :
    wpAny (model P w) A (setAddHashed a (.ref x) (k.hash w)) Q E s := by
  obtain ⟨o, ho, hex, hd⟩ := R.ob
  have hsl := size_of R.rows
  have hroom := R.room
  have h77 : L.length < 307 := by have := R.tab.mok.le; omega
  have hfit := R.fits
  unfold setAddHashed
  refine wpAny_holding ?_
  rw [show (100000 : Nat) = 99999 + 1 from rfl, setAddHashedIn_succ]
  refine wpAny_bind (wpAny_setState_of ho hd hfit ?_)
  dsimp only
  refine wp_if_neg (by simp [byScan, Value.scannable]) ?_
  try refine wpAny_bind (wpAny_pure ?_)
  refine wpAny_bind (srch R hx hu (fun hm => ?_) fun K hm hK hb => ?_)
  · dsimp only
    exact wpAny_pure (hQ false s.heap L es ep t (Heap.SameBut.refl a s.heap) R (fun _ => rfl) fun z => absurd hm z)
  dsimp only
  have h76 := few hm
  refine wpAny_bind (wpAny_setState_of ho hd hfit ?_)
  dsimp only
  obtain ⟨q1, q2, q3, q4, q5, q6, q7, q8, q9⟩ := R.tab.put hK hb rfl
  have hp1 : (t.put (way t.mask (k.hash w) K)).1.plain = true := by rw [q6]; exact R.plain
  generalize hpt : t.put (way t.mask (k.hash w) K) = pt at q1 q3 q4 q5 q6 q7 q8 q9 hp1 ⊢
  obtain ⟨t1, p⟩ := pt
  dsimp only at q1 q3 q4 q5 q6 q7 q8 q9 hp1 ⊢
  subst q1
  first
    | (refine wpAny_bind ?_; refine wp_if_pos hp1 ?_; refine byval_key k _ 8 s hx.is hx.dp hx.nm A E _ ?_)
    | refine wp_if_pos hp1 (wpAny_bind (byval_key k _ 8 s hx.is hx.dp hx.nm A E _ ?_))
  simp only [if_true]
  generalize hpp : SetTable.below t.place (way t.mask (k.hash w) K) = p at q2 q3 ⊢
  have hin : (SetTable.insertAt es p (k.hash w, Value.ref x)).toList = rowsK w (L.take p ++ (x, k) :: L.drop p) := by
    rw [SetTable.toList_insertAt, R.rows]
    show (L.map _).take p ++ _ :: (L.map _).drop p = List.map _ (L.take p ++ (x, k) :: L.drop p)
    rw [List.map_append, List.map_cons, List.map_take, List.map_drop]
  have pm := put_perm L p (x, k)
  have hlen : (L.take p ++ (x, k) :: L.drop p).length = L.length + 1 := pm.length_eq
  have hhs : hashesK w (L.take p ++ (x, k) :: L.drop p) = (hashesK w L).take p ++ k.hash w :: (hashesK w L).drop p := by
    show List.map _ (L.take p ++ (x, k) :: L.drop p) = (L.map _).take p ++ _ :: (L.map _).drop p
    rw [List.map_append, List.map_cons, List.map_take, List.map_drop]
  rw [← hhs] at q3
  have nd1 : ((L.take p ++ (x, k) :: L.drop p).map (·.2)).Nodup := by
    refine (pm.map (·.2)).nodup_iff.mpr ?_
    rw [List.map_cons]
    exact List.nodup_cons.mpr ⟨hm, R.nd⟩
  have hes : (SetTable.insertAt es p (k.hash w, Value.ref x)).size = L.length + 1 := by rw [size_of hin, hlen]
  generalize SetTable.insertAt es p (k.hash w, Value.ref x) = es1 at hin hes ⊢
  generalize L.take p ++ (x, k) :: L.drop p = L1 at pm hlen q3 nd1 hin
  refine wpAny_bind (wpAny_storeSet_of ho hd ?_ (by rw [hes, sizeLine_eq]; omega))
  have sb : Heap.SameBut a s.heap (s.heap.update a (Obj.putSet es1 t1)) := Heap.SameBut.update ..
  have ho1 := store_at (es' := es1) (t' := t1) ho hd
  generalize s.heap.update a (Obj.putSet es1 t1) = h1 at sb ho1 ⊢
  have key1 : ∀ p ∈ L1, MK h1 p.1 p.2 := fun p hp => by
    rcases List.mem_cons.mp (pm.mem_iff.mp hp) with e | hp
    · rw [e]; exact hx.but ho hd sb
    · exact (R.key p hp).but ho hd sb
  have ld1 : w.params.followText "set-order" = true ∨ t1.led = true := by rw [q5]; exact R.led
  by_cases hf : t1.tooFull = true
  · first
      | (refine wpAny_bind ?_; refine wp_if_pos (by simp [hf]) ?_)
      | (refine wp_if_pos (by simp [hf]) ?_; refine wpAny_bind ?_)
    have hfull : (L.length + 1) * 5 ≥ t1.mask * 3 := by
      have h := hf
      unfold SetTable.tooFull at h
      rw [decide_eq_true_eq, q9, List.length_map] at h
      exact h
    rw [hsl]
    have hsz1 : t1.place.size = es1.size := by
      have h := q3.sz
      rw [List.length_map, hlen] at h
      rw [h, hes]
    have cases2 : (t.mask = 7 ∧ L.length = 4) ∨ (t.mask = 31 ∧ L.length = 18) ∨ (t.mask = 127 ∧ L.length = 76) := by
      rcases R.tab.mok with (e | e | e) | e
      · left; rw [q4, e] at hfull; rw [e] at hroom; exact ⟨e, by omega⟩
      · right; left; rw [q4, e] at hfull; rw [e] at hroom; exact ⟨e, by omega⟩
      · right; right; rw [q4, e] at hfull; rw [e] at hroom; exact ⟨e, by omega⟩
      · exfalso; rw [q4, e] at hfull; omega
    have go : ∀ M, SetTable.sizeAbove (SetTable.grown (L.length + 1)) - 1 = M → M4 M → SetTable.sizeAbove (SetTable.grown (L.length + 1)) ≤ 512 → (L.length + 1) * 5 < M * 3 →
        wpAny (model P w) A (setRelay a (SetTable.grown (L.length + 1))) (fun _ s' => wpAny (model P w) A (pure true) Q E s') E { s with heap := h1 } := fun M g1 g2 g3 g4 => by
      refine relay (s := { s with heap := h1 }) ho1 ⟨hex.1, hex.2.1, hex.2.2⟩ rfl hin hsz1 q3.dm (by rw [hes, q4]; rcases cases2 with ⟨e, e2⟩ | ⟨e, e2⟩ | ⟨e, e2⟩ <;> omega) nd1 key1 hp1 ld1 g1 g2 g3 (by rw [hlen]; exact g4) ?_
      intro h2 L2 es2 ep2 t2 sb2 R2 pm2
      exact wpAny_pure (hQ true h2 L2 es2 ep2 t2 (sb.trans sb2) R2 (fun z => absurd z hm) fun _ => pm2.trans pm)
    rcases cases2 with ⟨_, e2⟩ | ⟨_, e2⟩ | ⟨_, e2⟩
    · exact go 31 (by rw [e2, size_5]) (.inl (.inr (.inl rfl))) (by rw [e2, size_5]; decide) (by omega)
    · exact go 127 (by rw [e2, size_19]) (.inl (.inr (.inr rfl))) (by rw [e2, size_19]; decide) (by omega)
    · exact go 511 (by rw [e2, size_77]) (.inr rfl) (by rw [e2, size_77]; decide) (by omega)
  · first
      | refine wp_if_neg (by simp [hf]) ?_
      | (refine wpAny_bind ?_; refine wp_if_neg (by simp [hf]) ?_; refine wpAny_pure ?_)
    refine wpAny_pure (hQ true h1 L1 es1 (ep + 1) t1 sb ⟨⟨_, ho1, ⟨hex.1, hex.2.1, hex.2.2⟩, rfl⟩, hin, q3, nd1, key1, hp1, ld1, ?_⟩ (fun z => absurd z hm) fun _ => pm)
    have h := hf
    unfold SetTable.tooFull at h
    rw [decide_eq_true_eq, q9, List.length_map] at h
    rw [hlen]
    omega
/-- what the set has got from the first i items -/
structure Has (ks : List (Addr × NestedKey)) (i : Nat) (L : List (Addr × NestedKey)) : Prop where
  sub : ∀ p ∈ L, p ∈ ks.take i
  all : ∀ p ∈ ks.take i, p.2 ∈ L.map (·.2)
theorem Has.zero (ks : List (Addr × NestedKey)) : Has ks 0 [] := ⟨fun p h => (nomatch h), fun p h => by simp at h⟩
theorem Has.next {ks L L' : List (Addr × NestedKey)} {i : Nat} {x : Addr × NestedKey} (g : Has ks i L) (h : ks[i]? = some x) (c1 : x.2 ∈ L.map (·.2) → L' = L) (c2 : x.2 ∉ L.map (·.2) → L'.Perm (x :: L)) : Has ks (i + 1) L' := by
  have e : ks.take (i + 1) = ks.take i ++ [x] := take_next h
  have hx : x ∈ ks.take (i + 1) := by rw [e]; exact List.mem_append_right _ (List.mem_singleton.mpr rfl)
  have up : ∀ {p}, p ∈ ks.take i → p ∈ ks.take (i + 1) := fun hp => by rw [e]; exact List.mem_append_left _ hp
  by_cases c : x.2 ∈ L.map (·.2)
  · rw [c1 c]
    refine ⟨fun p hp => up (g.sub p hp), fun p hp => ?_⟩
    rw [e] at hp
    rcases List.mem_append.mp hp with z | z
    · exact g.all p z
    · rw [List.mem_singleton.mp z]; exact c
  · have pm := c2 c
    refine ⟨fun p hp => ?_, fun p hp => ?_⟩
    · rcases List.mem_cons.mp (pm.mem_iff.mp hp) with z | z
      · rw [z]; exact hx
      · exact up (g.sub p z)
    · rw [(pm.map (·.2)).mem_iff, List.map_cons]
      rw [e] at hp
      rcases List.mem_append.mp hp with z | z
      · exact List.mem_cons_of_mem _ (g.all p z)
      · rw [List.mem_singleton.mp z]; exact List.mem_cons_self
theorem Bg.keep {h h' : Heap} (R : Bg w h a L es ep t) (hk : ∀ b o, h.get? b = some o → h'.get? b = some o) : Bg w h' a L es ep t := by
  obtain ⟨o, ho, r⟩ := R.ob
  exact ⟨⟨o, hk a o ho, r⟩, R.rows, R.tab, R.nd, fun p hp => (R.key p hp).keep hk, R.plain, R.led, R.room⟩
theorem bg_new {h : Heap} (ho : h.get? a = some { cls := .type "set", dict := none, data := .set #[] 0 (.fresh 0 0 (!w.params.followText "set-order")) }) : Bg w h a [] #[] 0 (.fresh 0 0 (!w.params.followText "set-order")) where
  ob := ⟨_, ho, ⟨rfl, rfl, rfl⟩, rfl⟩
  rows := rfl
  tab := ⟨List.Pairwise.nil, rfl, rfl, .inl (.inl rfl), fun x hx => (nomatch hx), fun i h j hi => by simp at hi⟩
  nd := List.nodup_nil
  key := fun p hp => nomatch hp
  plain := rfl
  led := by
    show _ ∨ (!w.params.followText "set-order") = true
    cases w.params.followText "set-order"
    · exact .inr rfl
    · exact .inl rfl
  room := by
    show 0 * 5 < 7 * 3
    decide
end
end Bs

/-! part Bs4 -/
namespace Bs
open PySem PySem.Spec PyProof.Rows L2 Tb
/-- no more than 306 different keys -/
def Few (ks : List NestedKey) : Prop := ∀ M : List NestedKey, M.Nodup → (∀ k ∈ M, k ∈ ks) → M.length ≤ 306
section
variable {P : Program} {w : World} {A : Around} {E : Value → Shared → Prop} {s : Shared}
/-- the loop of set.update -/
theorem fill {I : Addr} {fp wr : List Addr} {G : Array GenState → Array GenState → Prop} {n : Nat} {Pv : Nat → Value → Prop} {St : Nat → Shared → Prop} {R : Result → Shared → Prop} (W : WalksS P w A.in1 I fp wr G n Pv St) (S : Addr) (hSf : S ∉ fp)
    (ks : List (Addr × NestedKey)) (hn : n = ks.length) (few : Few (ks.map (·.2))) (hval : ∀ i v, Pv i v → ∃ p, ks[i]? = some p ∧ v = .ref p.1) (h0 : Heap) (hk : ∀ p ∈ ks, MK h0 p.1 p.2) (hS0 : h0.get? S = none) (hw0 : ∀ b ∈ wr, h0.get? b = none)
    (hu : A.in1.units + 8 < cLine) : ∀ (m i : Nat) (s : Shared), n - i = m → i ≤ n → St i s → (∀ b o, h0.get? b = some o → s.heap.get? b = some o) → (∃ L es ep t, Bg w s.heap S L es ep t ∧ Has ks i L) →
      (∀ s' L es ep t, Moved (S :: wr) G s s' → Bg w s'.heap S L es ep t → Has ks n L → (∀ b o, h0.get? b = some o → s'.heap.get? b = some o) → R (.ok (.ret .none)) s') →
      codeAny (model P w) A (.builtin "set.update.loop" ⟨[.ref S, .ref I], []⟩) R s := by
  have hSw : S ∉ wr := fun h => hSf (W.sub _ h)
  have more : ∀ b ∈ wr, b ∈ S :: wr := fun b hb => List.mem_cons_of_mem _ hb
  -- a turn of the walk leaves the set and the keys
  have stays : ∀ {s s' : Shared} {i : Nat} {L es ep t}, Moved wr G s s' → (∀ b o, h0.get? b = some o → s.heap.get? b = some o) → Bg w s.heap S L es ep t → Has ks i L → Bg w s'.heap S L es ep t ∧ ∀ b o, h0.get? b = some o → s'.heap.get? b = some o := by
    intro s s' i L es ep t hm hkp hB g
    have hkp' : ∀ b o, h0.get? b = some o → s'.heap.get? b = some o := fun b o e => hm.heap b o (fun hb => by rw [hw0 b hb] at e; cases e) (hkp b o e)
    obtain ⟨o, ho, r⟩ := hB.ob
    exact ⟨⟨⟨o, hm.heap S o hSw ho, r⟩, hB.rows, hB.tab, hB.nd, fun p hp => (hk p (List.mem_of_mem_take (g.sub p hp))).keep hkp', hB.plain, hB.led, hB.room⟩, hkp'⟩
  intro m
  induction m with
  | zero =>
    intro i s hm0 hi hst hkp ⟨L, es, ep, t, hB, g⟩ hR
    obtain rfl : i = n := by omega
    refine codeAny_builtin F.entry_set_update_loop ?_
    rw [Around.under_plainId F.plain_set_update_loop _]
    show wpAny _ A.in1 (pyNext (.ref I) >>= _) _ _ s
    refine wpAny_bind (W.done s _ _ hst fun s' hm => ?_)
    show wpAny _ A.in1 (ret Value.none) _ _ s'
    obtain ⟨hB', hkp'⟩ := stays hm hkp hB g
    exact wpAny_pure (hR s' L es ep t (hm.mono more) hB' g hkp')
  | succ m ih =>
    intro i s hm0 hi hst hkp ⟨L, es, ep, t, hB, g⟩ hR
    have hlt : i < n := by omega
    refine codeAny_builtin F.entry_set_update_loop ?_
    rw [Around.under_plainId F.plain_set_update_loop _]
    show wpAny _ A.in1 (pyNext (.ref I) >>= _) _ _ s
    refine wpAny_bind (W.item i s _ _ hlt hst fun v s' hP hst' hm => ?_)
    obtain ⟨p, hp, rfl⟩ := hval i v hP
    obtain ⟨hB', hkp'⟩ := stays hm hkp hB g
    have hx : MK s'.heap p.1 p.2 := (hk p (List.mem_of_getElem? hp)).keep hkp'
    show wpAny _ A.in1 (holding [Value.ref p.1] (setAdd S (.ref p.1)) >>= _) _ _ s'
    refine wpAny_bind (wpAny_holding ?_)
    unfold setAdd
    refine wpAny_holding ?_
    refine wpAny_bind ((nestedKind P w).pyHash hu hx.kind ?_)
    refine add (s := { s' with toks := s'.toks + p.2.draws }) hB' hx hu (fun c => ?_) fun b h' L' es' ep' t' sb hB2 c1 c2 => ?_
    · have q := few (p.2 :: L.map (·.2)) (List.nodup_cons.mpr ⟨c, hB'.nd⟩) fun k hk' => by
        rcases List.mem_cons.mp hk' with e | hk'
        · rw [e]
          exact List.mem_map_of_mem (List.mem_of_getElem? hp)
        · obtain ⟨y, hy, rfl⟩ := List.mem_map.mp hk'
          exact List.mem_map_of_mem (List.mem_of_mem_take (g.sub y hy))
      rw [List.length_cons, List.length_map] at q
      omega
    · have hkp2 : ∀ b o, h0.get? b = some o → h'.get? b = some o := fun b o e => (sb.2 b (fun z => by rw [z, hS0] at e; cases e)).trans (hkp' b o e)
      refine wpAny_pure ⟨plainId_quiet F.plain_set_update_loop _, ih (i + 1) _ (by omega) hlt (W.frame _ s' _ _ hst' (Nat.le_add_right _ _) fun b hb o e => ?_) hkp2 ⟨L', es', ep', t', hB2, g.next hp c1 c2⟩ fun s'' L2 es2 ep2 t2 hm'' hB'' g'' hkp'' => ?_⟩
      · rw [sb.2 b (fun z : b = S => hSf (by rw [← z]; exact hb))]
        exact e
      · refine hR s'' L2 es2 ep2 t2 (Moved.trans W.gtrans ((hm.mono more).then_heap (Nat.le_add_right _ _) fun b o hb e => ?_) hm'') hB'' g'' hkp''
        rw [sb.2 b (fun z : b = S => hb (by rw [z]; exact List.mem_cons_self))]
        exact e
/-- the empty set's object -/
abbrev set0 (w : World) : Obj := { cls := .type "set", dict := none, data := .set #[] 0 (.fresh 0 0 (!w.params.followText "set-order")) }
set_option maxHeartbeats 8000000 in
/-- set(xs), xs a list -/
theorem call_set {l : Addr} {items : Array Value} (ks : List (Addr × NestedKey)) {Q : Value → Shared → Prop} (hh : A.handled = none) (hl : s.heap.IsList l items) (hit : items.toList = ks.map fun p => Value.ref p.1) (hk : ∀ p ∈ ks, MK s.heap p.1 p.2)
    (few : Few (ks.map (·.2))) (hu : A.units + 16 < cLine)
    (h : ∀ (h' : Heap) (tk : Nat) L es ep t, Bg w h' s.heap.objs.size L es ep t → Has ks ks.length L → (∀ b o, s.heap.get? b = some o → h'.get? b = some o) → Q (.ref s.heap.objs.size) { s with heap := h', toks := tk }) :
    wpAny (model P w) A (call (.type "set") [.ref l]) Q E s := by
  have hisz : items.size = ks.length := by
    have q := congrArg List.length hit
    rw [Array.length_toList, List.length_map] at q
    exact q
  obtain ⟨c, tl, hmro⟩ := F.called_set.mro
  have hmade := F.called_set.made
  have hsub := F.called_set.sub
  refine wpAny_call (codeAny_of_tree ?_)
  show wpAny _ _ (callAny (.type "set") _) _ _ _
  refine wpAny_pure ⟨Code.quiet_builtin _ (by decide +kernel), codeAny_builtin F.entry_type_call ?_⟩
  rw [Around.under_plain (weight_type_call_type "set" [.ref l] []) rfl]
  have h1 := F.called_set.notType
  have h2 := F.called_set.canCreate
  have hct := F.typeCall_set_1 (.ref l)
  repeat (any_goals (first | assumption | wp_step))
  refine codeAny_mono (code_set_led1 (.ref l) (E := E) (Q₁ := fun obj s₁ => obj = .ref s.heap.objs.size ∧ s₁ = { s with heap := s.heap.push (set0 w) }) ⟨rfl, rfl⟩) fun r s₁ hr => ?_
  cases r with
  | error e => exact hr
  | ok fl =>
    cases fl with
    | ret obj =>
      obtain ⟨rfl, rfl⟩ := hr
      have hS : (s.heap.push (set0 w)).get? s.heap.objs.size = some (set0 w) := Heap.get?_push_size _ rfl
      have hT : Shared.TypeIs { s with heap := s.heap.push (set0 w) } (.ref s.heap.objs.size) "set" := ⟨_, hS, rfl⟩
      have hli := F.called_set.init.lookup
      have hbi := F.called_set.init.bind (.ref s.heap.objs.size)
      repeat (any_goals (first | assumption | wp_step))
      refine codeAny_mono (codeAny_call_builtin (R := wants (fun r s₂ => r = .none ∧ ∃ h' tk L es ep t, s₂ = { s with heap := h', toks := tk } ∧ Bg w h' s.heap.objs.size L es ep t ∧ Has ks ks.length L ∧
          (∀ b o, s.heap.get? b = some o → h'.get? b = some o)) E) F.called_set.init.plain F.entry_set_init (check_set_init_1 hT ?_)) fun r₂ s₂ hr₂ => ?_
      · obtain ⟨ol, hol, hcl, nl, hdl⟩ := hl
        obtain ⟨ocls, odict, odata, oslots⟩ := ol
        simp only at hcl hdl
        subst hcl; subst hdl
        have hol' : (s.heap.push (set0 w)).get? l = some { cls := .type "list", dict := odict, data := .seq items nl, slots := oslots } := Heap.get?_push_of_some _ hol
        have hsls := F.sub_list_set
        have hslf := F.sub_list_frozenset
        have hne : (Value.type "list" == Value.type "dict") = false := by decide
        have hl1 : (s.heap.push (set0 w)).IsList l items := ⟨_, hol', rfl, nl, rfl⟩
        unfold Builtin.«set.__init__» noKeywords Builtin.Frozenset.updateFrom
        generalize hPI : pyIter = PI
        wp_walk
        subst hPI
        refine wpAny_pyIter_list hl1 ?_
        refine wpAny_bind (wpAny_runValue ?_)
        have hlS : l < s.heap.objs.size := Heap.lt_size hol
        have hh3 : A.in1.in1.in1.handled = none := by simp [hh]
        have hz : (s.heap.push (set0 w)).objs.size = s.heap.objs.size + 1 := Heap.size_push ..
        have hneI : l ≠ (s.heap.push (set0 w)).objs.size := by
          rw [hz]; exact Nat.ne_of_lt (Nat.lt_succ_of_lt hlS)
        have hSf : s.heap.objs.size ∉ [(s.heap.push (set0 w)).objs.size, l] := by
          rw [hz]; simp only [List.mem_cons, List.mem_singleton, List.not_mem_nil, or_false, not_or]
          exact ⟨Nat.ne_of_lt (Nat.lt_succ_self _), Nat.ne_of_gt hlS⟩
        have hval : ∀ (i : Nat) (v : Value), items[i]? = some v → ∃ p, ks[i]? = some p ∧ v = .ref p.1 := fun i v hv => by
          have q : items.toList[i]? = some v := by rw [Array.getElem?_toList]; exact hv
          rw [hit, List.getElem?_map] at q
          cases hq : ks[i]? with
          | none => rw [hq] at q; cases q
          | some p =>
            rw [hq] at q
            exact ⟨p, rfl, (Option.some.inj q).symm⟩
        have none_of : ∀ b, s.heap.objs.size ≤ b → s.heap.get? b = none := fun b hb => by
          cases q : s.heap.get? b with
          | none => rfl
          | some o => exact absurd (Nat.lt_of_lt_of_le (Heap.lt_size q) hb) (Nat.lt_irrefl _)
        refine fill ((Walks.list hh3 _ l hneI items).toS) s.heap.objs.size hSf ks hisz few hval s.heap hk (none_of _ (Nat.le_refl _)) (fun b hb => none_of b (by
            rw [List.mem_singleton.mp hb, hz]
            exact Nat.le_succ _)) (by simp only [Around.in1_units]; omega) (items.size - 0) 0 _ (by omega) (Nat.zero_le _)
          ⟨⟨_, Heap.get?_push_size _ rfl, rfl, rfl⟩, (hl1.push _)⟩ (fun b o e => Heap.get?_push_of_some _ (Heap.get?_push_of_some _ e)) ?hS0 ?hR
        case hS0 =>
          exact ⟨[], #[], 0, _, bg_new (Heap.get?_push_of_some _ hS), Has.zero ks⟩
        case hR =>
          intro s' L es ep t hm hB' g' hkp
          obtain ⟨h', g2, d', tk', os'⟩ := s'
          have eg : g2 = s.gens := hm.gens
          have ed : d' = s.drawn := hm.drawn
          have eo : os' = s.os := hm.os
          subst eg; subst ed; subst eo
          show wpAny _ _ _ _ _ _
          refine wpAny_pure ?_
          show wpAny _ _ (ret Value.none) _ _ _
          rw [hisz] at g'
          exact wpAny_pure ⟨rfl, h', tk', L, es, ep, t, rfl, hB', g', hkp⟩
      · cases r₂ with
        | error e => exact hr₂
        | ok fl₂ =>
          cases fl₂ with
          | ret r =>
            obtain ⟨rfl, h', tk, L, es, ep, t, rfl, hB', g', hk'⟩ := hr₂
            repeat (any_goals (first | assumption | wp_step))
            exact h _ _ _ _ _ _ hB' g' hk'
          | _ => exact hr₂.elim
    | _ => exact hr.elim
end
end Bs

/-! part Bs5 -/
namespace Bs
open PySem PySem.Spec PyProof.Rows L2
theorem perm_map_back {α β : Type} {f : α → β} : ∀ {xs ys : List β}, xs.Perm ys → ∀ L : List α, ys = L.map f → ∃ M : List α, xs = M.map f ∧ M.Perm L := by
  intro xs ys h
  induction h with
  | nil =>
    intro L e
    cases L with
    | nil => exact ⟨[], rfl, .refl _⟩
    | cons a L => cases e
  | cons x _ ih =>
    intro L e
    cases L with
    | nil => cases e
    | cons a L =>
      obtain ⟨e1, e2⟩ := List.cons.inj e
      obtain ⟨M, rfl, p⟩ := ih L e2
      exact ⟨a :: M, by rw [List.map_cons, e1], p.cons a⟩
  | swap x y l =>
    intro L e
    match L, e with
    | a :: b :: L, e =>
      obtain ⟨e1, e2⟩ := List.cons.inj e
      obtain ⟨e3, e4⟩ := List.cons.inj e2
      exact ⟨b :: a :: L, by rw [List.map_cons, List.map_cons, e1, e3, e4], .swap a b L⟩
  | trans _ _ ih1 ih2 =>
    intro L e
    obtain ⟨M, e1, p1⟩ := ih2 L e
    obtain ⟨N, e2, p2⟩ := ih1 M e1
    exact ⟨N, e2, p2.trans p1⟩
theorem each_of {β : Type} {f : β → Value} {Rr : Value → β → Prop} : ∀ {M : List β}, (∀ q ∈ M, Rr (f q) q) → PySem.W.EachIs Rr (M.map f) M
  | [], _ => .nil
  | q :: M, h => .cons (h q List.mem_cons_self) (each_of fun x hx => h x (List.mem_cons_of_mem _ hx))
theorem each_eq {β : Type} {f : β → Value} : ∀ {vs : List Value} {M : List β}, PySem.W.EachIs (fun v q => v = f q) vs M → vs = M.map f
  | _, _, .nil => rfl
  | _, _, .cons e t => by rw [List.map_cons, e, each_eq t]
section
variable {P : Program} {w : World} {A : Around} {E : Value → Shared → Prop} {s : Shared} {a : Addr} {L : List (Addr × NestedKey)} {es : Array (Int × Value)} {ep : Nat} {t : SetTable}
/-- sorted(set) -/
theorem sorted_set {Q : Value → Shared → Prop} (R : Bg w s.heap a L es ep t) (hh : A.handled = none) (hu : A.units + 64 < cLine) (dt : Addr × NestedKey → PyData) (hr : ∀ p ∈ L, ∃ as, Reads s.heap (.ref p.1) (dt p) as) (hal : PySem.W.AllAlike (L.map fun p => dt p))
    (hk : PySem.W.Sortable (L.map fun p => dt p)) (hdp : ∀ p ∈ L, (dt p).depth ≤ 40)
    (hQ : ∀ s' p (c : Nat) (M : List (Addr × NestedKey)), (∀ b o, s.heap.get? b = some o → s'.heap.get? b = some o) → s'.gens = s.gens → s'.os = s.os → s.heap.objs.size ≤ p → M.Perm L →
      s'.heap.get? p = some (seqObj "list" ((M.mergeSort (PySem.W.dataLe false fun q => dt q)).map fun q => Value.ref q.1).toArray c) → Q (.ref p) s') : wpAny (model P w) A (call (.builtin "sorted") [.ref a]) Q E s := by
  obtain ⟨o, ho, hex, hd⟩ := R.ob
  have hsz := size_of R.rows
  have hroom := R.room
  have h77 : L.length < 307 := by have := R.tab.mok.le; omega
  refine Calls.call_function_entry kind_sorted plain_sorted entry_sorted (args_sorted1 _) ?_
  unfold Builtin.«sorted»
  refine wpAny_bind (m := checkCount "sorted" 1 1 _) (wpAny_pure ?_)
  refine wpAny_bind (collect_set (A := A.in1) hh ⟨o, ho, hex.1, hd⟩ R.fits (by unfold scanBound; omega) R.tab.ris R.led fun s1 vs k1 hz g1 o1 pm => ?_)
  have hes : es.toList.map (·.2) = L.map fun q => Value.ref q.1 := by
    rw [R.rows]
    show (L.map _).map _ = _
    rw [List.map_map]
    rfl
  rw [hes] at pm
  obtain ⟨M, rfl, pM⟩ := perm_map_back pm L rfl
  have hML : M.length = L.length := pM.length_eq
  refine wpAny_bind (wpAny_newList ?_ (by rw [List.length_map, sizeLine_eq]; omega))
  have hoL : (s1.heap.push (seqObj "list" (M.map fun q => Value.ref q.1).toArray 0)).get? s1.heap.objs.size = some (seqObj "list" (M.map fun q => Value.ref q.1).toArray 0) := Heap.get?_push_size _ rfl
  have hmap : (M.map fun p => dt p).Perm (L.map fun p => dt p) := pM.map _
  refine wpAny_bind (wpAny_holding (PySem.W.list_sort_data (s := { s1 with heap := s1.heap.push (seqObj "list" (M.map fun q => Value.ref q.1).toArray 0) }) (R := fun v q => v = Value.ref q.1) (enc := fun q : Addr × NestedKey => dt q) (bs := M) hoL (each_of fun q _ => rfl)
    (each_of fun q hq => ?_) (fun d hd' d2 hd2 => hal d (hmap.mem_iff.mp hd') d2 (hmap.mem_iff.mp hd2)) ?_ (by rw [hML, sizeLine_eq]; omega) (fun q hq => ?_) fun out ho2 eo => ?_))
  · obtain ⟨as, r⟩ := hr q (pM.mem_iff.mp hq)
    have r1 : Reads s1.heap (.ref q.1) (dt q) as := PyProof.Rows.Reads.keeps k1 r
    refine ⟨as, PyProof.Rows.Reads.keeps (fun b o e => Heap.get?_push_of_some _ e) r1, fun hm => ?_⟩
    obtain ⟨o2, e2⟩ := PyProof.On.reads_mem_get r1 _ hm
    exact absurd (Heap.lt_size e2) (Nat.lt_irrefl _)
  · rcases hk with h | h
    · exact .inl fun d hd' => h d (hmap.mem_iff.mp hd')
    · exact .inr fun d hd' => h d (hmap.mem_iff.mp hd')
  · have := hdp q (pM.mem_iff.mp hq)
    simp only [Around.in1_units]
    omega
  obtain ⟨c, hc⟩ := sortedHeap_at (vs := M.map fun q => Value.ref q.1) (out := out.toArray) hoL
  rw [each_eq eo] at hc ⊢
  refine wpAny_pure ⟨_, rfl, hQ _ s1.heap.objs.size c M (fun b u e => ?_) g1 o1 hz pM hc⟩
  have q := k1 b u e
  have hlt := Heap.lt_size q
  show (sortedHeap (s1.heap.push _) s1.heap.objs.size _ _).get? b = some u
  rw [sortedHeap_old (Nat.ne_of_lt hlt) (by rw [size_push']; exact Nat.lt_succ_of_lt hlt)]
  exact Heap.get?_push_of_some _ q
end
end Bs

/-! part Bs6 -/
namespace Bs
open PySem PySem.Spec PyProof.Rows L2 Dy Dk Tb
inductive KO : Nat → D → Prop
  | non {n : Nat} : KO n .non
  | int {n : Nat} (i : Int) : KO n (.int i)
  | tup {n : Nat} {ds : List D} : (∀ d ∈ ds, KO n d) → KO (n + 1) (.tup ds)
def isTup : D → Bool
  | .tup _ => true
  | _ => false
theorem kDs_map : ∀ ds : List D, kD.kDs ds = ds.map kD
  | [] => rfl
  | d :: ds => by rw [List.map_cons, ← kDs_map ds]; rfl
theorem kD_depth {n : Nat} {d : D} (h : KO n d) : (kD d).depth ≤ n := by
  induction h with
  | non => exact Nat.zero_le _
  | int i => exact Nat.zero_le _
  | @tup n ds _ ih =>
    refine Nat.succ_le_succ ?_
    show NestedKey.depthAll (kD.kDs ds) ≤ n
    rename_i hh
    clear hh
    induction ds with
    | nil => exact Nat.zero_le _
    | cons d ds ih2 => exact Nat.max_le.mpr ⟨ih d List.mem_cons_self, ih2 fun x hx => ih x (List.mem_cons_of_mem _ hx)⟩
theorem kD_num {n : Nat} {d : D} (h : KO n d) : numK (kD d) = true := by
  induction h with
  | non => rfl
  | int i => rfl
  | @tup n ds hh ih =>
    show numKs (kD.kDs ds) = true
    clear hh
    induction ds with
    | nil => rfl
    | cons d ds ih2 =>
      show (numK (kD d) && numKs (kD.kDs ds)) = true
      rw [ih d List.mem_cons_self, ih2 fun x hx => ih x (List.mem_cons_of_mem _ hx)]
      rfl
theorem kD_data {n : Nat} {d : D} (h : KO n d) : (kD d).data = py d := by
  induction h with
  | non => rfl
  | int i => rfl
  | @tup n ds hh ih =>
    show PyData.tuple (NestedKey.datas (kD.kDs ds)) = PyData.tuple (pys ds)
    refine congrArg PyData.tuple ?_
    clear hh
    induction ds with
    | nil => rfl
    | cons d ds ih2 =>
      show (kD d).data :: NestedKey.datas (kD.kDs ds) = py d :: pys ds
      rw [ih d List.mem_cons_self, ih2 fun x hx => ih x (List.mem_cons_of_mem _ hx)]
theorem is_nk {K : PySem.W.Frag} {R H : Hp} (e : Same R H) {n : Nat} {d : D} (h : KO n d) : ∀ {v : V}, Is K R v d → NK K H v (kD d) := by
  induction h with
  | non => intro v i; cases i; exact .non
  | int k => intro v i; cases i; exact .int k
  | @tup n ds hh ih =>
    intro v i
    cases i with
    | @tup a xs _ q ia =>
      refine .tup (same_sqT e q) ?_
      show NKs K H xs (kD.kDs ds)
      clear hh q
      induction ds generalizing xs with
      | nil => cases ia; exact .nil
      | cons d ds ih2 =>
        cases ia with
        | cons a b => exact .cons (ih d List.mem_cons_self a) (ih2 (fun x hx => ih x (List.mem_cons_of_mem _ hx)) b)
/-- what is told of such a set at its own address -/
structure Bg0 (w : World) (h : Heap) (a : Addr) (L : List (Addr × NestedKey)) : Prop where
  ex : ∃ (es : Array (Int × Value)) (ep : Nat) (t : SetTable), (∃ o, h.get? a = some o ∧ o.ExactSet ∧ o.data = .set es ep t) ∧ es.toList = rowsK w L ∧ TabG t (hashesK w L) ∧ (L.map (·.2)).Nodup ∧ t.plain = true ∧
    (w.params.followText "set-order" = true ∨ t.led = true) ∧ L.length * 5 < t.mask * 3
def SetB (w : World) (a : Addr) (L : List (Addr × NestedKey)) : HO := .ext fun h => Bg0 w h a L
theorem Bg.bg0 {w : World} {h : Heap} {a : Addr} {L : List (Addr × NestedKey)} {es : Array (Int × Value)} {ep : Nat} {t : SetTable} (R : Bg w h a L es ep t) : Bg0 w h a L := ⟨es, ep, t, R.ob, R.rows, R.tab, R.nd, R.plain, R.led, R.room⟩
theorem Bg0.full {w : World} {h : Heap} {a : Addr} {L : List (Addr × NestedKey)} (R : Bg0 w h a L) (hk : ∀ p ∈ L, MK h p.1 p.2) : ∃ es ep t, Bg w h a L es ep t := by
  obtain ⟨es, ep, t, h1, h2, h3, h4, h5, h6, h7⟩ := R.ex
  exact ⟨es, ep, t, h1, h2, h3, h4, hk, h5, h6, h7⟩
theorem setB_new {P : Program} {w : World} {H : Hp} {h : Heap} {a : Addr} {L : List (Addr × NestedKey)} (R : Bg0 w h a L) : ObjOk P w H h a (SetB w a L) := by
  have ⟨es, ep, t, ⟨o, ho, r⟩, q⟩ := R.ex
  refine ⟨R, ⟨o, ho⟩, fun h1 h2 p k => ?_⟩
  have ⟨es', ep', t', ⟨o', ho', r'⟩, q'⟩ := Bg0.ex p
  exact ⟨es', ep', t', ⟨o', k o' ho', r'⟩, q'⟩
theorem refs_of {ks : List (Addr × NestedKey)} : ∀ {us : List Value}, Vals (ks.map fun p => V.ref p.1) us → us = ks.map fun p => Value.ref p.1 := by
  induction ks with
  | nil => intro us r; cases r; rfl
  | cons p ks ih =>
    intro us r
    cases r with
    | cons a b =>
      cases a
      rw [ih b]
      rfl
theorem of_refs (ks : List (Addr × NestedKey)) : Vals (ks.map fun p => V.ref p.1) (ks.map fun p => Value.ref p.1) := by
  induction ks with
  | nil => exact .nil
  | cons p ks ih => exact .cons rfl ih
/-- keys of tuples -/
structure Ke (K : PySem.W.Frag) (H : Hp) (p : Addr × NestedKey) : Prop where
  nk : NK K H (.ref p.1) p.2
  dp : p.2.depth ≤ 8
  nm : numK p.2 = true
section
variable {X : Cx}
theorem Ke.mk' {pins : List (Addr × Obj)} {σ : L2.St} {H : Hp} {s : Shared} (I : L2.Inv X pins σ H s) {p : Addr × NestedKey} (h : Ke X.K H p) : MK s.heap p.1 p.2 := ⟨nk_is I h.nk rfl, h.dp, h.nm⟩
/-- set(xs), xs a list of tuples -/
def rSetB (K : PySem.W.Frag) (w : World) : List V → Hp → VK → Prop := fun xs H Q => ∃ (l : Addr) (ks : List (Addr × NestedKey)), xs = [V.ref l] ∧ SqL K H l (ks.map fun p => V.ref p.1) ∧ (∀ p ∈ ks, Ke K H p) ∧ Few (ks.map (·.2)) ∧
  ∀ a L, H a = none → (∀ p ∈ L, p ∈ ks) → (∀ p ∈ ks, p.2 ∈ L.map (·.2)) → (L.map (·.2)).Nodup → Q (.ref a) (upd H a (SetB w a L))
theorem cr_setB (hc : X.calm = true) (hu : X.A.units + 64 < cLine) : CallR X (.type "set") (rSetB X.K X.w) := by
  intro pins s σ H xs us Q I r h
  obtain ⟨l, ks, rfl, hl, hk, hf, q⟩ := h
  rw [Vals.ref1 r]
  obtain ⟨its, rv, pl, hz⟩ := I.list hl
  refine call_set (P := X.prog) (w := X.w) ks (I.ok.hd hc) pl.isList (by simpa using refs_of rv) (fun p hp => (hk p hp).mk' I) hf (by omega) fun h' tk L es ep t R g k => ?_
  refine ⟨.ref s.heap.objs.size, upd H s.heap.objs.size (SetB X.w s.heap.objs.size L), I.laid (t' := tk) k (Nat.le_refl _) (setB_new R.bg0), rfl, q _ L (I.hok.fresh (Nat.le_refl _)) (fun p hp => List.mem_of_mem_take (g.sub p hp)) (fun p hp => g.all p (by rw [List.take_length]; exact hp)) R.nd⟩
/-- sorted(set) -/
def rSortedB (K : PySem.W.Frag) (w : World) : List V → Hp → VK → Prop := fun vs H Q => ∃ (a : Addr) (L : List (Addr × NestedKey)), vs = [V.ref a] ∧ H a = some (SetB w a L) ∧ (∀ p ∈ L, Ke K H p) ∧ (∀ p ∈ L, Dp K H (.ref p.1) p.2.data) ∧
  PySem.W.AllAlike (L.map fun p => p.2.data) ∧ PySem.W.Sortable (L.map fun p => p.2.data) ∧ (∀ p ∈ L, p.2.data.depth ≤ 40) ∧
  ∀ (M : List (Addr × NestedKey)) (p : Addr), M.Perm L → H p = none → Q (.ref p) (upd H p (.lst ((M.mergeSort (PySem.W.dataLe false fun q => q.2.data)).map fun q => V.ref q.1)))
theorem cr_sortedB (hc : X.calm = true) (hu : X.A.units + 64 < cLine) : CallR X (.builtin "sorted") (rSortedB X.K X.w) := by
  intro pins s σ H vs us Q I r h
  obtain ⟨a, L, rfl, ha, hk, hd, hal, hso, hdp, q⟩ := h
  have R0 : Bg0 X.w s.heap a L := (I.hok a _ ha).1
  obtain ⟨es, ep, t, R⟩ := R0.full fun p hp => (hk p hp).mk' I
  rw [Vals.ref1 r]
  have h77 : L.length < 307 := by
    have hroom := R.room
    have := R.tab.mok.le
    omega
  refine sorted_set R (I.ok.hd hc) hu (fun p => p.2.data) (fun p hp => Dp.reads I p.2.data _ _ (hd p hp) rfl) hal hso hdp fun s' p c M k g o hp pm hg => ?_
  have hn : H p = none := I.hok.fresh hp
  have hlen : ((M.mergeSort (PySem.W.dataLe false fun q => q.2.data)).map fun q => V.ref q.1).length ≤ sizeLine := by rw [List.length_map, List.length_mergeSort, pm.length_eq, sizeLine_eq]; omega
  have J : L2.Inv X pins σ (upd H p (.lst ((M.mergeSort (PySem.W.dataLe false fun q => q.2.data)).map fun q => V.ref q.1))) { s with heap := s'.heap, gens := s'.gens, drawn := s'.drawn, toks := s'.toks } :=
    I.call (ch := []) (Un.laid k hp hn) (I.hok.laid k hp ⟨hlen, _, c, of_refs _, hg⟩) (by rw [g]; exact I.bare) (fun _ z => nomatch z)
  have e : s' = { s with heap := s'.heap, gens := s'.gens, drawn := s'.drawn, toks := s'.toks } := by
    cases s'
    cases s
    cases o
    rfl
  rw [e]
  exact ⟨.ref p, _, J, rfl, q M p pm hn⟩
end
end Bs

/-! part Ly25 -/
namespace Dy
open PySem PySem.Spec PyProof.Rows L2
/-! comprehensions with two clauses; methods of instances -/
section
variable {X : Cx}
def bI (X : Cx) (scope : Scope) (tg it : Expr) : TI := fun σ H R => Bk X scope fun Y => wI Y tg it σ H R
theorem bI_ok {scope : Scope} {tg it : Expr} (s : Shared) (H : Hp) (C : Addr) (cl : List (Str × Addr)) (fp : List Addr) : PI (X.blk s H scope (compEnvC scope cl C X.env) fp) tg it (bI X scope tg it) :=
  ⟨fun pins s' σ H' Q I h => (piW).run pins s' σ H' Q I (h s H C cl fp)⟩
theorem wipe_wipe {σ : L2.St} {vs vs1 : List Nat} (h : ∀ i ∈ vs1, i ∈ vs) : L2.wipe (L2.wipe σ vs1) vs = L2.wipe σ vs := by
  refine List.ext_getElem? fun i => ?_
  by_cases hi : i ∈ vs
  · rw [wipe_at hi, wipe_at hi, wipe_length]
  · rw [wipe_out2 hi, wipe_out2 hi, wipe_out2 fun z => hi (h i z)]
/-- where a comprehension stands: the list it makes is D -/
def At (K : PySem.W.Frag) (F R1 : Hp) (D : Addr) (σ : L2.St) (Pv : List Dy.D → List Sl → Prop) (H : Hp) : Prop := ∃ R' acc xs δ2, Tr F R1 R' ∧ StOk K F R' H σ δ2 ∧ R' D = none ∧ H D = some (.lst xs) ∧ IsA K R' xs acc ∧ (∀ (i : Nat) (es : List Dy.D), δ2[i]? ≠ some (.own D es)) ∧ Pv acc δ2
/-- [elt for tg in it if .. for tg1 in it1 if ..] -/
theorem do_lc2 {tg it tg1 it1 elt : Expr} {ifs ifs1 : List Expr} {scope : Scope} {own : List (Str × Nat)} {vs1 : List Nat} {pos : Pos} {δ δ1 δ' : List Sl} {items ds : List D} (ok : BlkOk X.N X.env.scope scope own) (hv : ∀ i ∈ vs1, i ∈ own.map (·.2)) (hi : DI X tg it δ items δ1)
    (Pv : Nat → List D → List Sl → Prop) (h0 : Pv 0 [] (wipeD δ1 (own.map (·.2))))
    (hs : ∀ i d acc δ2, items[i]? = some d → Pv i acc δ2 → ∃ ws δ3 b δ4, (∀ j ∈ ws, j ∈ own.map (·.2)) ∧ (Bk X scope fun Y => DG Y tg d ws δ2 δ3) ∧ (Bk X scope fun Y => DTs Y ifs δ3 b δ4) ∧
      if b = true then ∃ (items1 : List D) (δ5 : List Sl) (Pw : Nat → List D → List Sl → Prop), (Bk X scope fun Y => DI Y tg1 it1 δ4 items1 δ5) ∧ Pw 0 acc (wipeD δ5 vs1) ∧
        (∀ j d1 ac δ6, items1[j]? = some d1 → Pw j ac δ6 → ac.length < 1000000 ∧ ∃ ws1 δ7 b1 δ8, (∀ k ∈ ws1, k ∈ vs1) ∧ (Bk X scope fun Y => DG Y tg1 d1 ws1 δ6 δ7) ∧ (Bk X scope fun Y => DTs Y ifs1 δ7 b1 δ8) ∧
          if b1 = true then ∃ y δ9, (Bk X scope fun Y => DE Y elt δ8 y δ9) ∧ Pw (j + 1) (ac ++ [y]) (wipeD δ9 vs1) else Pw (j + 1) ac (wipeD δ8 vs1)) ∧
        (∀ ac δ6, Pw items1.length ac δ6 → Pv (i + 1) ac (wipeD δ6 (own.map (·.2))))
      else Pv (i + 1) acc (wipeD δ4 (own.map (·.2))))
    (hd : ∀ acc δ2, Pv items.length acc δ2 → acc = ds ∧ δ2 = δ') (hc : X.calm = true := by rfl) (hN : X.N.Nodup := by first | assumption | decide) (hf : ∀ x, foldedSetIterable it X.env x = pure x := by intro _; rfl) (hf1 : ∀ env x, foldedSetIterable it1 env x = pure x := by intro _ _; rfl) :
    DO X (.ListComp elt [⟨tg, it, ifs, 0⟩, ⟨tg1, it1, ifs1, 0⟩] scope pos) δ ds δ' := fun F R H σ Q s k =>
  (pe_lc2 (vs1 := vs1) (wi1 := bI X scope tg1 it1) hc hN piW ok hv bG_ok bT_ok bI_ok bG_ok bT_ok bE_ok hf hf1).w (by
    refine hi F R H σ _ s fun J R1 H1 t1 s1 w D hD => ?_
    have hF : F D = none := s1.fr.free hD
    have hR1 : R1 D = none := s1.rg.free hD
    generalize hvs : own.map (·.2) = vs at hv h0 hs ⊢
    refine ⟨fun i m H' => At X.K F R1 D (L2.wipe σ vs) (Pv i) H' ∧ i ≤ items.length ∧ m = items.length - i,
      ⟨_, ⟨R1, [], [], _, Tr.refl _ _, (s1.off hD).wipe vs, hR1, upd_same, .nil, fun i es q => ?_, h0⟩, Nat.zero_le _, rfl⟩, ?_⟩
    · obtain ⟨_, _, _, ys, hy, _⟩ := (s1.wipe vs).at_ i _ q
      rw [hD] at hy
      cases hy
    rintro i m H2 ⟨⟨R2, acc, xs, δ2, t2, s2, hR2, hD2, ia, no, p2⟩, hi2, rfl⟩
    have rg2 : Same R1 H2 := t2.ex.trans s2.rg
    by_cases hlt : i < items.length
    · refine .inr ⟨w.go i H2 rg2 hlt, fun H' => At X.K F R1 D (L2.wipe σ vs) (Pv (i + 1)) H', fun H' a => ⟨items.length - (i + 1), by omega, a, hlt, rfl⟩, fun x H3 y => ?_⟩
      obtain ⟨ws, δ3, b, δ4, hw, g, ts, fin⟩ := hs i _ acc δ2 (List.getElem?_eq_getElem hlt) p2
      have go : ∀ {R3 : Hp}, Tr F R1 R3 → StOk X.K F R3 H3 (L2.wipe σ vs) δ2 → Is X.K R3 x items[i] → R3 D = none → H3 D = some (.lst xs) → IsA X.K R3 xs acc →
          bG X scope tg x (L2.wipe σ vs) H3 fun σ2 H4 => L2.wipe σ2 vs = L2.wipe σ vs ∧ bT X scope ifs σ2 H4 fun b H5 => if b = true then bI X scope tg1 it1 σ2 H5 fun J1 H6 => ∃ W1 : Nat → Nat → Hp → Prop, (∃ m, W1 0 m H6) ∧ ∀ j k H, W1 j k H →
            (J1.stop j H ∧ At X.K F R1 D (L2.wipe σ vs) (Pv (i + 1)) H) ∨ (J1.go j H ∧ ∃ Nx1 : Hp → Prop, (∀ H', Nx1 H' → ∃ k', k' < k ∧ W1 (j + 1) k' H') ∧ ∀ x H', J1.yld j H x H' → bG X scope tg1 x (L2.wipe σ2 vs1) H' fun σ3 H7 => L2.wipe σ3 vs1 = L2.wipe σ2 vs1 ∧ bT X scope ifs1 σ3 H7 fun b H8 =>
              if b = true then bE X scope elt σ3 H8 fun y H9 => ∃ ac, H9 D = some (.lst ac) ∧ ac.length < sizeLine ∧ Nx1 (upd H9 D (.lst (ac ++ [y]))) else Nx1 H8)
            else At X.K F R1 D (L2.wipe σ vs) (Pv (i + 1)) H5 := by
        intro R3 t3 s3 ix hR3 hD3 ia3 s' H' C cl fp
        obtain ⟨u3, fu⟩ := s3.up
        have hFv : frm H3 δ2 D = some (.lst xs) := by rw [frm_not no (s3.noC fun hf M z => by rw [hD3] at z; cases z), hD3]
        have hFu : frm H3 δ2 D ≠ none := by rw [hFv]; exact fun z => by cases z
        refine g s' H' C cl fp (frm H3 δ2) R3 H3 _ x _ u3 ix fun σ2 l2 g2 u4 => ?_
        have we : L2.wipe σ2 vs = L2.wipe σ vs := wipe_same l2 g2 hw
        refine ⟨we, fun s' H' C cl fp => ts s' H' C cl fp (frm H3 δ2) R3 H3 σ2 _ u4 fun R5 H5 t5 u5 => ?_⟩
        have noq : ∀ {Rq Hq : Hp} {σq : L2.St} {δq : List Sl}, StOk X.K (frm H3 δ2) Rq Hq σq δq → ∀ (j : Nat) (es : List Dy.D), δq[j]? ≠ some (.own D es) := fun {Rq Hq σq δq} u j es q => hFu (u.at_ j _ q).2.1
        cases b with
        | false =>
          rw [if_neg Bool.false_ne_true] at fin ⊢
          have u6 := u5.wipe vs
          rw [we] at u6
          exact ⟨R5, acc, xs, _, t3.trans (t5.low fu), u6.low fu, t5.nw D hFu hR3, u5.fr D _ hFv, ia3.mono t5.ex, noq u6, fin⟩
        | true =>
          rw [if_pos rfl] at fin ⊢
          obtain ⟨items1, δ5, Pw, hi1, w0, hs1, hd1⟩ := fin
          intro s' H' C cl fp
          refine hi1 s' H' C cl fp (frm H3 δ2) R5 H5 σ2 _ u5 fun J1 R6 H6 t6 u6 w1 => ?_
          have t36 : Tr F R1 R6 := t3.trans ((t5.trans t6).low fu)
          have hR6 : R6 D = none := (t5.trans t6).nw D hFu hR3
          have hD6 : H6 D = some (.lst xs) := u6.fr D _ hFv
          refine ⟨fun j k H' => At X.K F R6 D (L2.wipe σ2 vs1) (Pw j) H' ∧ j ≤ items1.length ∧ k = items1.length - j, ⟨_, ⟨R6, acc, xs, _, Tr.refl _ _, (u6.low fu).wipe vs1, hR6, hD6, ia3.mono (t5.trans t6).ex, noq (u6.wipe vs1), w0⟩, Nat.zero_le _, rfl⟩, ?_⟩
          rintro j k H7 ⟨⟨R7, ac, ys, δ6, t7, s7, hR7, hD7, ic, no7, p7⟩, hj, rfl⟩
          have rg7 : Same R6 H7 := t7.ex.trans s7.rg
          by_cases hjt : j < items1.length
          · refine .inr ⟨w1.go j H7 rg7 hjt, fun H' => At X.K F R6 D (L2.wipe σ2 vs1) (Pw (j + 1)) H', fun H' a => ⟨items1.length - (j + 1), by omega, a, hjt, rfl⟩, fun x1 H8 y1 => ?_⟩
            obtain ⟨hac, ws1, δ7, b1, δ8, hw1, g1, ts1, fin1⟩ := hs1 j _ ac δ6 (List.getElem?_eq_getElem hjt) p7
            have go1 : ∀ {R8 : Hp}, Tr F R6 R8 → StOk X.K F R8 H8 (L2.wipe σ2 vs1) δ6 → Is X.K R8 x1 items1[j] → R8 D = none → H8 D = some (.lst ys) → IsA X.K R8 ys ac →
                bG X scope tg1 x1 (L2.wipe σ2 vs1) H8 fun σ3 H9 => L2.wipe σ3 vs1 = L2.wipe σ2 vs1 ∧ bT X scope ifs1 σ3 H9 fun b H10 => if b = true then bE X scope elt σ3 H10 fun y H11 => ∃ ac, H11 D = some (.lst ac) ∧ ac.length < sizeLine ∧ At X.K F R6 D (L2.wipe σ2 vs1) (Pw (j + 1)) (upd H11 D (.lst (ac ++ [y])))
                  else At X.K F R6 D (L2.wipe σ2 vs1) (Pw (j + 1)) H10 := by
              intro R8 t8 s8 iy hR8 hD8 ic8 s' H' C cl fp
              obtain ⟨v8, fv⟩ := s8.up
              have gv : frm H8 δ6 D = some (.lst ys) := by rw [frm_not no7 (s8.noC fun hf M z => by rw [hD8] at z; cases z), hD8]
              have gu : frm H8 δ6 D ≠ none := by rw [gv]; exact fun z => by cases z
              have noz : ∀ {Rq Hq : Hp} {σq : L2.St} {δq : List Sl}, StOk X.K (frm H8 δ6) Rq Hq σq δq → ∀ (j : Nat) (es : List Dy.D), δq[j]? ≠ some (.own D es) := fun {Rq Hq σq δq} u j es q => gu (u.at_ j _ q).2.1
              refine g1 s' H' C cl fp (frm H8 δ6) R8 H8 _ x1 _ v8 iy fun σ3 l3 g3 v9 => ?_
              have we1 : L2.wipe σ3 vs1 = L2.wipe σ2 vs1 := wipe_same l3 g3 hw1
              refine ⟨we1, fun s' H' C cl fp => ts1 s' H' C cl fp (frm H8 δ6) R8 H8 σ3 _ v9 fun R10 H10 t10 v10 => ?_⟩
              cases b1 with
              | false =>
                rw [if_neg Bool.false_ne_true] at fin1 ⊢
                have v11 := v10.wipe vs1
                rw [we1] at v11
                exact ⟨R10, ac, ys, _, t8.trans (t10.low fv), v11.low fv, t10.nw D gu hR8, v10.fr D _ gv, ic8.mono t10.ex, noz v11, fin1⟩
              | true =>
                rw [if_pos rfl] at fin1 ⊢
                obtain ⟨yd, δ9, he, pv⟩ := fin1
                intro s' H' C cl fp
                refine he s' H' C cl fp (frm H8 δ6) R10 H10 σ3 _ v10 fun yv R11 H11 t11 v11 iv => ?_
                have v12 := v11.wipe vs1
                rw [we1] at v12
                have t811 := t10.trans t11
                refine ⟨ys, v11.fr D _ gv, ?_, R11, ac ++ [yd], ys ++ [yv], _, t8.trans (t811.low fv), (v12.low fv).write hF (t811.nw D gu hR8) (noz v12) (fun j hf ks vs q => gu (v12.at_ j _ q).2.1), t811.nw D gu hR8, upd_same, (ic8.mono t811.ex).app (.cons iv .nil), noz v12, pv⟩
                rw [ic.len, sizeLine_eq]
                omega
            rcases w1.yld j _ H7 x1 H8 R7 t7.ex s7.rg (List.getElem?_eq_getElem hjt) y1 with ⟨rfl, iy⟩ | ⟨T, o, hT, rfl, iy⟩
            · exact go1 t7 s7 iy hR7 hD7 ic
            · obtain ⟨s8, t8⟩ := s7.new (o := o) hT
              have hn : D ≠ T := ne_of_none hD7 hT
              exact go1 (t7.trans t8) s8 iy (by rw [upd_ne hn]; exact hR7) (by rw [upd_ne hn]; exact hD7) (ic.mono t8.ex)
          · obtain rfl : j = items1.length := by omega
            refine .inl ⟨w1.stop H7 rg7, ?_⟩
            have s9 := s7.wipe vs
            rw [wipe_wipe hv, we] at s9
            refine ⟨R7, ac, ys, _, t36.trans t7, s9, hR7, hD7, ic, fun i es q => ?_, hd1 ac δ6 p7⟩
            by_cases hiv : i ∈ vs
            · have z := s9.at_ i _ q
              have z1 := z.1
              rw [wipe_at hiv] at z1
              split at z1 <;> cases z1
            · have z := s9.at_ i _ q
              obtain ⟨z1, z2, z3, zs, z4, z5⟩ := z
              have : δ6[i]? = some (.own D es) := by
                have go : ∀ (vs : List Nat), i ∉ vs → (wipeD δ6 vs)[i]? = δ6[i]? := by
                  intro vs
                  induction vs with
                  | nil => exact fun _ => rfl
                  | cons v vs ih =>
                    intro hn
                    show ((wipeD δ6 vs).set v .no)[i]? = _
                    rw [List.getElem?_set_ne fun e => hn (by rw [e]; exact List.mem_cons_self)]
                    exact ih fun z => hn (List.mem_cons_of_mem _ z)
                rw [← go vs hiv]
                exact q
              exact no7 i es this
      rcases w.yld i _ H2 x H3 R2 t2.ex s2.rg (List.getElem?_eq_getElem hlt) y with ⟨rfl, ix⟩ | ⟨T, o, hT, rfl, ix⟩
      · exact go t2 s2 ix hR2 hD2 ia
      · obtain ⟨s3, t3⟩ := s2.new (o := o) hT
        have hn : D ≠ T := ne_of_none hD2 hT
        exact go (t2.trans t3) s3 ix (by rw [upd_ne hn]; exact hR2) (by rw [upd_ne hn]; exact hD2) (ia.mono t3.ex)
    · obtain rfl : i = items.length := by omega
      obtain ⟨rfl, rfl⟩ := hd acc δ2 p2
      exact .inl ⟨w.stop H2 rg2, k D xs R2 H2 (t1.trans t2) s2.unwipe hF hR2 hD2 ia no⟩)
end
theorem lookup_none {fs : List (Str × V)} {m : Str} (h : ∀ n ∈ fs.map (·.1), (n == m) = false) : fs.lookup m = none := by
  induction fs with
  | nil => rfl
  | cons p fs ih =>
    obtain ⟨n, v⟩ := p
    have h1 := h n List.mem_cons_self
    have h2 : (m == n) = false := by
      cases q : (m == n) with
      | false => rfl
      | true =>
        rw [eq_of_beq q] at h1
        rw [beq_self_eq_true] at h1
        cases h1
    rw [List.lookup_cons, h2]
    exact ih fun x hx => h x (List.mem_cons_of_mem _ hx)
section
variable {X : Cx} {k : Nat} {f C : Addr} {m : Str} {o e : Expr} {es : List Expr} {apos pos : Pos} {δ δ1 δ2 : List Sl} {ns : List Str} {ds gs : List D} {d : D}
theorem pe_methG {sp : Sp} {pl : Sem Bool} (c : Cls X.K C) (hm : Meth X.K C m f) (F : FnG X.prog X.w X.K X.mg X.base CX0 k f sp) (g : Gx X k)
    (hst : starEach (e :: es) X.env = (false, eval e X.env) :: starEach es X.env := by exact st_any rfl) (hpl : (backTo pos (starEach es X.env)).any (·.1) = false := by rfl)
    (ht : eval (.Call (.Attribute o m apos) (e :: es) [] pos) X.env = (do
      let ov ← eval o X.env
      standAt apos.atName
      let (f, first) ← holding [ov] (getMethod ov m pl)
      callWith pos f first (backTo pos (starEach (e :: es) X.env)) (backToKw pos (keywordEach [] X.env))) := by rfl) :
    PE X (.Call (.Attribute o m apos) (e :: es) [] pos) (fun σ H Q => wE X o σ H fun x H1 => ∃ a dx fs, x = .ref a ∧ H1 a = some (.ins C dx fs) ∧ fs.lookup m = none ∧ wA X (e :: es) σ H1 fun vs H2 => sp (x :: vs) H2 Q noX) := by
  refine ⟨fun pins s σ H Q I h => ?_⟩
  refine PySem.W.methodCall_KW (pl := pl) (thn (h.run pins s I) fun u s1 ⟨x, H1, I1, rx, a, dx, fs, ex, ea, l, q⟩ => ?_) ht
  subst ex
  obtain rfl : u = Value.ref a := rx
  refine getmeth_ok I1 ea c hm l ?_
  refine PySem.W.callWith_K (first := [.ref a]) (h₀ := X.base) I.ok.mod.kin hm.kp (thn (q.run pos pins s1 I1) fun us s2 ⟨vs, H2, I2, r, q2⟩ => ⟨I2.kIn, ?_⟩) hst hpl
  exact run_at (us := .ref a :: us) (vs := .ref a :: vs) F g I2 (.cons rfl r) q2
/-- o.m(e, ..) -/
theorem de_meth {Cc : List D → D → Prop} {pl : Sem Bool} (c : Cls X.K C) (hm : Meth X.K C m f) (F : FnG X.prog X.w X.K X.mg X.base CX0 k f (spP X.K Cc)) (g : Gx X k) (ho : DE X o δ (.obj C ns ds) δ1) (ha : DA X (e :: es) δ1 gs δ2) (cc : Cc (.obj C ns ds :: gs) d)
    (nl : ∀ n ∈ ns, (n == m) = false := by decide)
    (hst : starEach (e :: es) X.env = (false, eval e X.env) :: starEach es X.env := by exact st_any rfl) (hpl : (backTo pos (starEach es X.env)).any (·.1) = false := by rfl)
    (ht : eval (.Call (.Attribute o m apos) (e :: es) [] pos) X.env = (do
      let ov ← eval o X.env
      standAt apos.atName
      let (f, first) ← holding [ov] (getMethod ov m pl)
      callWith pos f first (backTo pos (starEach (e :: es) X.env)) (backToKw pos (keywordEach [] X.env))) := by rfl) :
    DE X (.Call (.Attribute o m apos) (e :: es) [] pos) δ d δ2 := fun F0 R H σ Q s k0 =>
  (pe_methG c hm F g hst hpl ht).w (ho F0 R H σ _ s fun x R1 H1 t1 s1 ix => by
    cases ix with
    | @obj a _ dx fs _ _ q e1 ia =>
      refine ⟨a, dx, fs, rfl, s1.rg _ _ q, lookup_none (by rw [e1]; exact nl), ha F0 R1 H1 σ _ s1 fun vs R2 H2 t2 s2 iv => use_P s2 (.cons ((Is.obj q e1 ia).mono t2.ex) iv) cc fun v R3 H3 t3 s3 iv3 => k0 v R3 H3 ((t1.trans t2).trans t3) s3 iv3⟩)
end
end Dy

/-! part Ly26 -/
namespace Dy
open PySem PySem.Spec PyProof.Rows L2
/-- the pairs (place, item) of a list -/
def enumD (ds : List D) : List D := ds.mapIdx fun i d => D.tup [.int (i : Int), d]
theorem enumD_len (ds : List D) : (enumD ds).length = ds.length := by unfold enumD; rw [List.length_mapIdx]
theorem enumD_get (ds : List D) (i : Nat) : (enumD ds)[i]? = ds[i]?.map fun d => D.tup [.int (i : Int), d] := by
  unfold enumD
  rw [List.getElem?_mapIdx]
theorem wlk_enum {K : PySem.W.Frag} {R : Hp} {a : Addr} {xs : List V} {ds : List D} (h : SqL K R a xs) (ia : IsA K R xs ds) : Wlk K (Ite K a) R (enumD ds) :=
  ⟨fun H e => ⟨xs, same_sqL e h, by rw [enumD_len, ia.len]; omega⟩, fun i H e hi => by
    rw [enumD_len] at hi
    exact ⟨xs, xs[i]'(by rw [ia.len]; omega), same_sqL e h, List.getElem?_eq_getElem _⟩,
    fun i d H x H' R2 e1 e2 hd y => by
      obtain ⟨T, x1, rfl, hT, rfl, f1⟩ := y
      rw [enumD_get] at hd
      obtain ⟨d1, g1, rfl⟩ := Option.map_eq_some_iff.mp hd
      obtain ⟨v1, q1, j1⟩ := ia.get g1
      have z1 := f1 xs (same_sqL (e1.trans e2) h)
      have w1 := Option.some.inj (q1.symm.trans z1)
      subst w1
      have hR : R2 T = none := e2.free hT
      have m : Same R2 (upd R2 T (.tup [.int (i : Nat), v1])) := fun b u e => by rw [upd_ne (ne_of_none e hR)]; exact e
      exact .inr ⟨T, _, hT, rfl, .tup (.inl (.inl upd_same)) (.cons (.int _) (.cons (j1.mono (e1.trans m)) .nil))⟩⟩
section
variable {X : Cx} {e : Expr} {δ δ1 : List Sl} {p pos : Pos} {x : Str} {Φ : DD} {m n : Int}
theorem di_enum {tpos : Pos} {elts : List Expr} {kk : Nat} {ds : List D} (hm : X.mg "enumerate" = none) (h : DE X e δ (.lst ds) δ1) (hg : Gl X "enumerate" := by rfl) (hs : starEach [e] X.env = [(false, eval e X.env)] := by exact st_any rfl) :
    DI X (.Tuple elts kk tpos) (.Call (.Name "enumerate" p) [e] [] pos) δ (enumD ds) δ1 := fun F R H σ Z s k =>
  (pi_enum hg hm paW hs).w ((da_one h hs) F R H σ _ s fun vs R1 H1 t1 s1 ia => by
    cases ia with
    | cons i1 i2 =>
      cases i2
      cases i1 with
      | lst q1 j1 => exact ⟨_, _, rfl, same_sqL s1.rg (SqL.of q1), k _ R1 H1 t1 s1 (wlk_enum (SqL.of q1) j1)⟩)
theorem ds_augI {op : Operator} {f : Int → Int → Int} {pos' : Pos} (i : Nat) (ho : PIp X op (ipI f)) (hi : δ[i]? = some (.dat (.int m))) (h : DE X e δ (.int n) δ1) (q : Φ.nx (δ1.set i (.dat (.int (f m n))))) (hN : X.N.Nodup := by first | assumption | decide) (hx : X.N[i]? = some x := by rfl) (hl : Loc X.env.scope x := by first | exact Or.inl rfl | exact Or.inr rfl)
    (hf : X.fn x = true ∨ X.env.scope.names.lookup x = some .local := by first | exact .inl rfl | exact .inr rfl) : DS X (.AugAssign (.Name x pos') op e pos) δ Φ := fun F R H σ E s k => by
  obtain ⟨v, e1, iv⟩ := s.at_ i _ hi
  cases iv
  refine (ps_aug hN hx hl peW ho hf).w ⟨_, e1, h F R H σ _ s fun v R1 H1 t1 s1 iv => ?_⟩
  cases iv
  exact ⟨_, _, rfl, rfl, k.nx R1 H1 _ _ t1 (s1.setD (.int _)) q⟩
theorem ds_subI {pos' : Pos} (i : Nat) (hi : δ[i]? = some (.dat (.int m))) (h : DE X e δ (.int n) δ1) (q : Φ.nx (δ1.set i (.dat (.int (m - n))))) (hN : X.N.Nodup := by first | assumption | decide) (hx : X.N[i]? = some x := by rfl) (hl : Loc X.env.scope x := by first | exact Or.inl rfl | exact Or.inr rfl)
    (hf : X.fn x = true ∨ X.env.scope.names.lookup x = some .local := by first | exact .inl rfl | exact .inr rfl) : DS X (.AugAssign (.Name x pos') .Sub e pos) δ Φ := ds_augI (f := fun a b => a - b) i ip_sub hi h q hN hx hl hf
theorem ds_addI {pos' : Pos} (i : Nat) (hi : δ[i]? = some (.dat (.int m))) (h : DE X e δ (.int n) δ1) (q : Φ.nx (δ1.set i (.dat (.int (m + n))))) (hN : X.N.Nodup := by first | assumption | decide) (hx : X.N[i]? = some x := by rfl) (hl : Loc X.env.scope x := by first | exact Or.inl rfl | exact Or.inr rfl)
    (hf : X.fn x = true ∨ X.env.scope.names.lookup x = some .local := by first | exact .inl rfl | exact .inr rfl) : DS X (.AugAssign (.Name x pos') .Add e pos) δ Φ := ds_augI (f := fun a b => a + b) i ip_add hi h q hN hx hl hf
end
section
variable {X : Cx} {k : Nat} {f C : Addr} {sp : Sp} {a b : Expr} {pos : Pos} {δ δ1 δ2 : List Sl} {d : D} {ds : List D} {ns : List Str}
/-- x not in o, o an instance with its own __contains__ -/
theorem op_notInG (h : Spc X.K C "__contains__" f) (F : FnG X.prog X.w X.K X.mg X.base CX0 k f sp) (g : Gx X k) : OpR X (compareOp .NotIn) (fun x y H Q => ∃ a dx fs, y = .ref a ∧ H a = some (.ins C dx fs) ∧ sp [.ref a, x] H (fun z H' => ∃ b, z = .bl b ∧ Q (.bl (!b)) H') noX) := by
  intro pins s σ H x y v u Q I rx ry ⟨a, dx, fs, e1, ea, q⟩
  subst e1
  cases (show u = Value.ref a from ry)
  obtain ⟨mA, O, _⟩ := ins_get I.hok ea
  obtain ⟨od, J, _⟩ := O.look
  obtain ⟨mm, hF⟩ := I.fr
  refine PySem.W.notIn_K hF I.ok.mod.kin J h.at_ h.fn (wpAny_mono (run_at F g I (.cons (rel_ref a) (.cons rx .nil)) q) (fun r s' z => ?_) fun _ _ x => x)
  obtain ⟨z, H', I', rz, b, e, qz⟩ := z
  subst e
  cases rz
  exact wpAny_truthy_bool ⟨.bl (!b), H', I', (rfl : RelV (.bl (!b)) (.bool (!b))), qz⟩
theorem dt_notInO {r : Bool} {Cc : List D → D → Prop} (h : Spc X.K C "__contains__" f) (F : FnG X.prog X.w X.K X.mg X.base CX0 k f (spP X.K Cc)) (g : Gx X k) (ha : DE X a δ d δ1) (hb : DE X b δ1 (.obj C ns ds) δ2) (cc : Cc [.obj C ns ds, d] (.bl r)) (hmk : behindInMarks .NotIn b = false) :
    DT X (.Compare a [.NotIn] [b] pos) δ (!r) δ2 := fun F0 R H σ Q s k0 =>
  (pt_cmpR (op_notInG h F g) peW peW hmk).w (ha F0 R H σ _ s fun x R1 H1 t1 s1 ix => hb F0 R1 H1 σ _ s1 fun y R2 H2 t2 s2 iy => by
    cases iy with
    | obj q e1 ia => exact ⟨_, _, _, rfl, s2.rg _ _ q, use_P s2 (.cons (.obj q e1 ia) (.cons (ix.mono t2.ex) .nil)) cc fun v R3 H3 t3 s3 iv => by
        cases iv
        exact ⟨r, rfl, _, rfl, k0 R3 H3 ((t1.trans t2).trans t3) s3⟩⟩)
end
end Dy

/-! part Ly27 -/
namespace Dy
open PySem PySem.Spec PyProof.Rows L2 Dk Bs
/-! dicts: what they hold, as pairs of data -/
abbrev dctE (hf : NestedKey → Int) (es : List (D × D)) : D := .dct hf (es.map (·.1)) (es.map (·.2))
abbrev odcE (hf : NestedKey → Int) (p : Addr) (es : List (D × D)) : Sl := .odc hf p (es.map (·.1)) (es.map (·.2))
def getE (es : List (D × D)) (k : D) : Option D := (es.find? fun y => decide (kD y.1 = kD k)).map (·.2)
def putE (es : List (D × D)) (k d : D) : List (D × D) := if (getE es k).isSome = true then es.map fun y => if kD y.1 = kD k then (y.1, d) else y else es ++ [(k, d)]
theorem putE_len (es : List (D × D)) (k d : D) : (putE es k d).length ≤ es.length + 1 := by
  unfold putE
  split
  · rw [List.length_map]; exact Nat.le_succ _
  · rw [List.length_append]; exact Nat.le_refl _
/-- the entries told -/
structure EntOk (K : PySem.W.Frag) (R : Hp) (M : List En) (es : List (D × D)) : Prop where
  a : IsA K R (entA M) (es.map (·.1))
  v : IsA K R (entV M) (es.map (·.2))
  k : entK M = (es.map (·.1)).map kD
section
variable {K : PySem.W.Frag} {R R2 H : Hp}
theorem EntOk.mono {M : List En} {es : List (D × D)} (h : EntOk K R M es) (e : Same R R2) : EntOk K R2 M es := ⟨h.a.mono e, h.v.mono e, h.k⟩
theorem EntOk.nil : EntOk K R [] [] := ⟨.nil, .nil, rfl⟩
theorem EntOk.len {M : List En} {es : List (D × D)} (h : EntOk K R M es) : M.length = es.length := by
  have := congrArg List.length h.k
  simpa using this
theorem EntOk.inv {y : En} {M : List En} {es : List (D × D)} (h : EntOk K R (y :: M) es) : ∃ k d es', es = (k, d) :: es' ∧ Is K R (.ref y.1) k ∧ Is K R y.2.2 d ∧ y.2.1 = kD k ∧ EntOk K R M es' := by
  match es, h with
  | [], h => have := h.k; cases this
  | (k, d) :: es', ⟨a, v, q⟩ =>
    cases a with
    | cons a1 a2 =>
      cases v with
      | cons v1 v2 => exact ⟨k, d, es', rfl, a1, v1, (List.cons.inj q).1, a2, v2, (List.cons.inj q).2⟩
theorem EntOk.cons {y : En} {M : List En} {k d : D} {es : List (D × D)} (a : Is K R (.ref y.1) k) (v : Is K R y.2.2 d) (q : y.2.1 = kD k) (h : EntOk K R M es) : EntOk K R (y :: M) ((k, d) :: es) :=
  ⟨.cons a h.a, .cons v h.v, by show y.2.1 :: entK M = _; rw [q, h.k]; rfl⟩
theorem EntOk.app : ∀ {M N : List En} {es fs : List (D × D)}, EntOk K R M es → EntOk K R N fs → EntOk K R (M ++ N) (es ++ fs)
  | [], N, es, fs, h, g => by
    have : es = [] := List.eq_nil_of_length_eq_zero (by rw [← h.len]; rfl)
    subst this
    exact g
  | y :: M, N, es, fs, h, g => by
    obtain ⟨k, d, es', rfl, a, v, q, h'⟩ := h.inv
    exact .cons a v q (EntOk.app h' g)
theorem EntOk.look : ∀ {M : List En} {es : List (D × D)}, EntOk K R M es → ∀ k : D, match Dk.look M (kD k) with
    | some v => ∃ d, getE es k = some d ∧ Is K R v d
    | none => getE es k = none
  | [], es, h, k => by
    have : es = [] := List.eq_nil_of_length_eq_zero (by rw [← h.len]; rfl)
    subst this
    rfl
  | y :: M, es, h, k => by
    obtain ⟨k', d, es', rfl, a, v, q, h'⟩ := h.inv
    have ih := EntOk.look h' k
    unfold Dk.look getE at *
    rw [List.find?_cons, List.find?_cons, q]
    by_cases e : kD k' = kD k
    · rw [decide_eq_true e]
      exact ⟨d, rfl, v⟩
    · rw [decide_eq_false e]
      exact ih
theorem EntOk.has {M : List En} {es : List (D × D)} (h : EntOk K R M es) (k : D) : Dk.has M (kD k) = (getE es k).isSome := by
  have := h.look k
  unfold Dk.has
  cases e : Dk.look M (kD k) with
  | none => rw [e] at this; rw [this]; rfl
  | some v => rw [e] at this; obtain ⟨d, hd, _⟩ := this; rw [hd]; rfl
theorem EntOk.put {a : Addr} {v : V} {k d : D} (ia : Is K R (.ref a) k) (iv : Is K R v d) {M : List En} {es : List (D × D)} (h : EntOk K R M es) : EntOk K R (Dk.put M a (kD k) v) (putE es k d) := by
  unfold Dk.put putE
  rw [h.has k]
  split
  · have go : ∀ {M : List En} {es : List (D × D)}, EntOk K R M es → EntOk K R (M.map (put1 (kD k) v)) (es.map fun y => if kD y.1 = kD k then (y.1, d) else y) := fun {M} => by
      induction M with
      | nil => intro es h; have : es = [] := List.eq_nil_of_length_eq_zero (by rw [← h.len]; rfl); subst this; exact .nil
      | cons y M ih =>
        intro es h
        obtain ⟨k', d', es', rfl, a', v', q, h'⟩ := h.inv
        rw [List.map_cons, List.map_cons]
        unfold put1
        by_cases e : kD k' = kD k
        · rw [if_pos (q.trans e), if_pos e]
          exact .cons a' iv q (ih h')
        · rw [if_neg (fun z => e (q.symm.trans z)), if_neg e]
          exact .cons a' v' q (ih h')
    exact go h
  · exact h.app (.cons ia iv rfl .nil)
theorem EntOk.keys (e : Same R H) {M : List En} {es : List (D × D)} (h : EntOk K R M es) (ko : ∀ y ∈ es, KO 8 y.1) : KeysOk K H M := by
  induction M generalizing es with
  | nil => intro y hy; cases hy
  | cons y M ih =>
    obtain ⟨k', d', es', rfl, a', v', q, h'⟩ := h.inv
    intro z hz
    rcases List.mem_cons.mp hz with e1 | hz
    · subst e1
      have hk := ko _ List.mem_cons_self
      rw [q]
      exact ⟨is_nk e hk a', kD_depth hk⟩
    · exact ih h' (fun w hw => ko w (List.mem_cons_of_mem _ hw)) z hz
end
/-! taking a locked dict out of the region -/
mutual
def nodc : D → Bool
  | .dct _ _ _ => false
  | .lst ds => nodcs ds
  | .tup ds => nodcs ds
  | .rol ds => nodcs ds
  | .obj _ _ ds => nodcs ds
  | _ => true
def nodcs : List D → Bool
  | [] => true
  | d :: ds => nodc d && nodcs ds
end
theorem nodcs_all : ∀ {ds : List D}, (∀ d ∈ ds, nodc d = true) → nodcs ds = true
  | [], _ => rfl
  | d :: ds, h => by
    show (nodc d && nodcs ds) = true
    rw [h d List.mem_cons_self, nodcs_all fun x hx => h x (List.mem_cons_of_mem _ hx)]
    rfl
theorem nodcs_ints (t : List Int) : nodcs (t.map D.int) = true := nodcs_all fun d hd => by
  obtain ⟨i, _, rfl⟩ := List.mem_map.mp hd
  rfl
theorem nodc_tI (t : List Int) : nodc (tI t) = true := nodcs_ints t
noncomputable def less (R : Hp) (p : Addr) : Hp := fun b => open Classical in if b = p then none else R b
section
variable {K : PySem.W.Frag} {R : Hp} {p : Addr} {o : Obj} {hf : NestedKey → Int} {M : List En}
theorem less_at : less R p p = none := if_pos rfl
theorem less_ne {b : Addr} (h : b ≠ p) : less R p b = R b := if_neg h
theorem less_sqT (hp : R p = some (.frz o (DtO hf p M))) {a : Addr} {xs : List V} (h : SqT K R a xs) : SqT K (less R p) a xs := by
  rcases h with (h | ⟨o', h⟩) | h
  · exact .inl (.inl (by rw [less_ne (fun z => by rw [z, hp] at h; cases h)]; exact h))
  · exact .inl (.inr ⟨o', by rw [less_ne (fun z => by rw [z, hp] at h; cases h)]; exact h⟩)
  · exact .inr h
theorem less_sqL (hp : R p = some (.frz o (DtO hf p M))) {a : Addr} {xs : List V} (h : SqL K R a xs) : SqL K (less R p) a xs := by
  rcases h with (h | ⟨o', h⟩) | h
  · exact .inl (.inl (by rw [less_ne (fun z => by rw [z, hp] at h; cases h)]; exact h))
  · exact .inl (.inr ⟨o', by rw [less_ne (fun z => by rw [z, hp] at h; cases h)]; exact h⟩)
  · exact .inr h
mutual
theorem Is.lessP (hp : R p = some (.frz o (DtO hf p M))) : ∀ {v : V} {d : D}, Is K R v d → nodc d = true → Is K (less R p) v d
  | _, _, .non, _ => .non
  | _, _, .bl b, _ => .bl b
  | _, _, .int i, _ => .int i
  | _, _, .str x, _ => .str x
  | _, _, .lst h a, n => .lst (by rw [less_ne (fun z => by rw [z, hp] at h; cases h)]; exact h) (IsA.lessP hp a n)
  | _, _, .rol h a, n => .rol (less_sqL hp h) (IsA.lessP hp a n)
  | _, _, .tup h a, n => .tup (less_sqT hp h) (IsA.lessP hp a n)
  | _, _, .obj h e a, n => .obj (by rw [less_ne (fun z => by rw [z, hp] at h; cases h)]; exact h) e (IsA.lessP hp a n)
  | _, _, .at_ p, _ => .at_ p
  | _, _, .emp h, _ => .emp (by rw [less_ne (fun z => by rw [z, hp] at h; cases h)]; exact h)
  | _, _, .dct _ _ _ _, n => by cases n
  | _, _, .dii h, _ => .dii (by rw [less_ne (fun z => by rw [z, hp] at h; cases h)]; exact h)
theorem IsA.lessP (hp : R p = some (.frz o (DtO hf p M))) : ∀ {vs : List V} {ds : List D}, IsA K R vs ds → nodcs ds = true → IsA K (less R p) vs ds
  | _, _, .nil, _ => .nil
  | _, _, .cons (d := d) (ds := ds) h t, n => by
    have n' : (nodc d && nodcs ds) = true := n
    rw [Bool.and_eq_true] at n'
    exact .cons (Is.lessP hp h n'.1) (IsA.lessP hp t n'.2)
end
end
/-- no other slot than i holds what changes -/
def OnlyC (δ : List Sl) (i : Nat) : Prop := ∀ (j : Nat) (s : Sl), j ≠ i → δ[j]? = some s → match s with
  | .own _ ds => nodcs ds = true
  | .odc _ _ _ _ => False
  | _ => True
section
variable {X : Cx} {e : Expr} {δ : List Sl} {hf : NestedKey → Int} {p : Addr} {es : List (D × D)} {d : D} {ds : List D}
/-- the state as it is while the dict in place i is read -/
theorem bor_in {K : PySem.W.Frag} {F R H : Hp} {σ : L2.St} {i : Nat} (s : StOk K F R H σ δ) (hi : δ[i]? = some (odcE hf p es)) (on : OnlyC δ i) : ∃ M, H p = some (DtO hf p M) ∧ F p = none ∧ R p = none ∧
    ∀ o, StOk K F (upd R p (.frz o (DtO hf p M))) (upd H p (.frz o (DtO hf p M))) σ (δ.set i (.dat (dctE hf es))) := by
  obtain ⟨a1, a2, a3, M, a4, a5, a6, a7⟩ := s.at_ i _ hi
  have hl : i < δ.length := (List.getElem?_eq_some_iff.mp hi).1
  refine ⟨M, a4, a2, a3, fun o => ?_⟩
  have mR : Same R (upd R p (.frz o (DtO hf p M))) := fun b u q => by rw [upd_ne (ne_of_none q a3)]; exact q
  refine ⟨fun b u q => ?_, fun b u q => ?_, by rw [List.length_set]; exact s.ln, fun j x q => ?_, fun j k r fs gs q1 q2 => ?_, s.ap2.dat⟩
  · rw [upd_ne (ne_of_none q a2)]
    exact s.fr b u q
  · by_cases hb : b = p
    · subst hb
      rw [upd_same] at q ⊢
      exact q
    · rw [upd_ne hb] at q ⊢
      exact s.rg b u q
  · by_cases hj : j = i
    · subst hj
      rw [List.getElem?_set_self hl] at q
      cases q
      exact ⟨_, a1, .dct upd_same (a5.mono mR) (a6.mono mR) a7⟩
    · rw [List.getElem?_set_ne (Ne.symm hj)] at q
      have z := s.at_ j x q
      have on' := on j x hj q
      cases x with
      | no => trivial
      | dat d =>
        obtain ⟨v, e1, e2⟩ := z
        exact ⟨v, e1, e2.mono mR⟩
      | own r fs =>
        obtain ⟨b1, b2, b3, xs, b4, b5⟩ := z
        have hn : r ≠ p := fun w => by subst w; rw [a4] at b4; cases b4
        exact ⟨b1, b2, by rw [upd_ne hn]; exact b3, xs, by rw [upd_ne hn]; exact b4, b5.mono mR⟩
      | odc hf' r ks vs => exact on'.elim
  · have f : ∀ {m : Nat} {r : Addr} {fs : List D}, (δ.set i (.dat (dctE hf es)))[m]? = some (.own r fs) → δ[m]? = some (.own r fs) := fun {m r fs} z => by
      by_cases hm : m = i
      · subst hm
        rw [List.getElem?_set_self hl] at z
        cases z
      · rw [List.getElem?_set_ne (Ne.symm hm)] at z
        exact z
    exact s.ap j k r fs gs (f q1) (f q2)
/-- and back -/
theorem bor_out {K : PySem.W.Frag} {F R H R2 H2 : Hp} {σ : L2.St} {i : Nat} {M : List En} {o : Obj} (s : StOk K F R H σ δ) (hi : δ[i]? = some (odcE hf p es)) (on : OnlyC δ i) (hM : H p = some (DtO hf p M)) (t2 : Tr F (upd R p (.frz o (DtO hf p M))) R2) (s2 : StOk K F R2 H2 σ (δ.set i (.dat (dctE hf es)))) :
    R2 p = some (.frz o (DtO hf p M)) ∧ H2 p = some (.frz o (DtO hf p M)) ∧ Tr F R (less R2 p) ∧ StOk K F (less R2 p) (upd H2 p (DtO hf p M)) σ δ := by
  obtain ⟨a1, a2, a3, M', a4, a5, a6, a7⟩ := s.at_ i _ hi
  rw [hM] at a4
  have r2 : R2 p = some (.frz o (DtO hf p M)) := t2.ex _ _ upd_same
  have h2 := s2.rg _ _ r2
  have hM' : DtO hf p M = DtO hf p M' := Option.some.inj a4
  have mR : Same R (less R2 p) := fun b u q => by
    have hb := ne_of_none q a3
    rw [less_ne hb]
    exact t2.ex _ _ (by rw [upd_ne hb]; exact q)
  refine ⟨r2, h2, ⟨mR, fun a q1 q2 => ?_⟩, fun b u q => ?_, fun b u q => ?_, s.ln, fun j x q => ?_, s.ap, s.ap2⟩
  · by_cases ha : a = p
    · rw [ha]; exact less_at
    · rw [less_ne ha]
      exact t2.nw a q1 (by rw [upd_ne ha]; exact q2)
  · rw [upd_ne (ne_of_none q a2)]
    exact s2.fr b u q
  · have hb : b ≠ p := fun z => by rw [z, less_at] at q; cases q
    rw [less_ne hb] at q
    rw [upd_ne hb]
    exact s2.rg b u q
  · by_cases hj : j = i
    · subst hj
      rw [hi] at q
      cases q
      exact ⟨a1, a2, less_at, M', by rw [upd_same, hM'], a5.mono mR, a6.mono mR, a7⟩
    · have z := s.at_ j x q
      have on' := on j x hj q
      cases x with
      | no => trivial
      | dat d =>
        obtain ⟨v, e1, e2⟩ := z
        exact ⟨v, e1, e2.mono mR⟩
      | own r fs =>
        obtain ⟨b1, b2, b3, xs, b4, b5⟩ := s2.at_ j (.own r fs) (by rw [List.getElem?_set_ne (Ne.symm hj)]; exact q)
        have hn : r ≠ p := fun w => by subst w; rw [r2] at b3; cases b3
        exact ⟨b1, b2, by rw [less_ne hn]; exact b3, xs, by rw [upd_ne hn]; exact b4, IsA.lessP r2 b5 on'⟩
      | odc hf' r ks vs => exact on'.elim
theorem de_borC (i : Nat) (hi : δ[i]? = some (odcE hf p es)) (on : OnlyC δ i) (h : DE X e (δ.set i (.dat (dctE hf es))) d (δ.set i (.dat (dctE hf es)))) (hn : nodc d = true) : DE X e δ d δ := fun F R H σ Q s k => by
  obtain ⟨M, hM, a2, a3, go⟩ := bor_in s hi on
  refine (pe_lock peW).w ⟨p, _, hM, trivial, fun o => h F _ _ σ _ (go o) fun v R2 H2 t2 s2 iv => ?_⟩
  obtain ⟨r2, h2, t3, s3⟩ := bor_out s hi on hM t2 s2
  exact ⟨h2, k v _ _ t3 s3 (Is.lessP r2 iv hn)⟩
theorem do_borC (i : Nat) (hi : δ[i]? = some (odcE hf p es)) (on : OnlyC δ i) (h : DO X e (δ.set i (.dat (dctE hf es))) ds (δ.set i (.dat (dctE hf es)))) (hn : nodcs ds = true) : DO X e δ ds δ := fun F R H σ Q s k => by
  obtain ⟨M, hM, a2, a3, go⟩ := bor_in s hi on
  have hl : i < δ.length := (List.getElem?_eq_some_iff.mp hi).1
  refine (pe_lock peW).w ⟨p, _, hM, trivial, fun o => h F _ _ σ _ (go o) fun q xs R2 H2 t2 s2 hF hR hq ia no => ?_⟩
  obtain ⟨r2, h2, t3, s3⟩ := bor_out s hi on hM t2 s2
  have hqp : q ≠ p := fun z => by rw [z, r2] at hR; cases hR
  refine ⟨h2, k q xs _ _ t3 s3 hF (by rw [less_ne hqp]; exact hR) (by rw [upd_ne hqp]; exact hq) (IsA.lessP r2 ia hn) fun j fs z => ?_⟩
  by_cases hj : j = i
  · subst hj
    rw [hi] at z
    cases z
  · exact no j fs (by rw [List.getElem?_set_ne (Ne.symm hj)]; exact z)
theorem dt_borC {m : Bool} (i : Nat) (hi : δ[i]? = some (odcE hf p es)) (on : OnlyC δ i) (h : DT X e (δ.set i (.dat (dctE hf es))) m (δ.set i (.dat (dctE hf es)))) : DT X e δ m δ := fun F R H σ Q s k => by
  obtain ⟨M, hM, a2, a3, go⟩ := bor_in s hi on
  have lk : PT X e (fun σ H Q => ∃ d u, H d = some u ∧ Mut (some u) ∧ ∀ od, wT X e σ (upd H d (.frz od u)) fun v H' => H' d = some (.frz od u) ∧ Q v (upd H' d u)) := ⟨fun pins s σ H Q I hw => by
    obtain ⟨d, u, hd, mu, hw⟩ := hw
    obtain ⟨od, I1⟩ := I.lock hd mu
    refine thn ((hw od).run pins s I1) fun v s1 ⟨H1, I2, e2, q⟩ => ?_
    exact ⟨_, I2.unlock e2 (I.nofrz hd mu), q⟩⟩
  refine lk.w ⟨p, _, hM, trivial, fun o => h F _ _ σ _ (go o) fun R2 H2 t2 s2 => ?_⟩
  obtain ⟨r2, h2, t3, s3⟩ := bor_out s hi on hM t2 s2
  exact ⟨h2, k _ _ t3 s3⟩
end
end Dy

/-! part Ly28 -/
namespace Dk
open PySem PySem.Spec PyProof.Rows L2
theorem dtf_exact {hf : NestedKey → Int} {p : Addr} {M : List En} {h : Heap} (R : DtF hf p M h) : ∃ o, h.get? p = some o ∧ o.ExactDict := by
  obtain ⟨_, _, _, _, _, o, _, _, e, x, _⟩ := R
  exact ⟨o, e, x⟩
section
variable {X : Cx} {pins : List (Addr × Obj)} {σ : L2.St} {H : Hp} {s : Shared} {p : Addr} {M : List En} {ob : Obj} {hf : NestedKey → Int}
theorem frz_dtf (I : L2.Inv X pins σ H s) (hp : H p = some (.frz ob (DtO hf p M))) : DtF hf p M s.heap ∧ s.heap.get? p = some ob := by
  have z := I.hok p _ hp
  exact ⟨z.2.1, z.1⟩
theorem dtf_type (R : DtF hf p M s.heap) : s.TypeIs (.ref p) "dict" ∧ ∀ b, Value.ref p = .ref b → ∃ ob, s.heap.get? b = some ob ∧ ob.dict = none := by
  obtain ⟨o, e, x⟩ := dtf_exact R
  exact ⟨⟨o, e, x.1⟩, fun b q => by cases q; exact ⟨o, e, x.2.1⟩⟩
/-- d[k] -/
def tIxN (X : Cx) (td ty : TE) : TE := fun σ H Q => td σ H fun x H1 => ty σ H1 fun y H2 => ∃ (p a : Addr) (ob : Obj) (M : List En) (k : NestedKey) (v : V), x = .ref p ∧ y = .ref a ∧ H2 p = some (.frz ob (DtO (hW X) p M)) ∧ KeysOk X.K H2 M ∧ NK X.K H2 (.ref a) k ∧ k.depth ≤ 8 ∧ look M k = some v ∧ Q v H2
theorem pe_ixN {o i : Expr} {pos : Pos} {td ty : TE} (hu : X.A.units + 64 < cLine) (ho : PE X o td) (hi : PE X i ty) (hs : NoSl i) : PE X (.Subscript o i pos) (tIxN X td ty) := by
  refine ⟨fun pins s σ H Q I h => ?_⟩
  refine subD_of PySem.F.slot_dict_getitem.lookup hs (thn (ho.run pins s σ H _ I h) fun u s1 ⟨x, H1, I1, rx, q1⟩ => thn (hi.run pins s1 σ H1 _ I1 q1) fun iv s2 ⟨y, H2, I2, ry, p, a, ob, M, k, v, ex, ey, hp, hk, ha, hd, hv, q2⟩ => ?_)
  subst ex ey
  obtain rfl : u = Value.ref p := rx
  obtain rfl : iv = Value.ref a := ry
  obtain ⟨R, _⟩ := frz_dtf I2 hp
  exact ⟨(dtf_type R).1, dt_get hu I2 R hk ha hd hv q2⟩
/-- d.get(k, x) -/
def tGet2N (X : Cx) (td ty tx : TE) : TE := fun σ H Q => td σ H fun x H1 => ∃ (p : Addr) (ob : Obj) (M : List En), x = .ref p ∧ H1 p = some (.frz ob (DtO (hW X) p M)) ∧ ty σ H1 fun y H2 => tx σ H2 fun z H3 =>
  ∃ (a : Addr) (k : NestedKey), y = .ref a ∧ H3 p = some (.frz ob (DtO (hW X) p M)) ∧ KeysOk X.K H3 M ∧ NK X.K H3 (.ref a) k ∧ k.depth ≤ 8 ∧ Q ((look M k).getD z) H3
theorem pe_get2N {o e f : Expr} {apos cpos : Pos} {td ty tx : TE} (hu : X.A.units + 64 < cLine) (ho : PE X o td) (he : PE X e ty) (hf : PE X f tx) (m : M2 X o "get" apos e f cpos) : PE X (.Call (.Attribute o "get" apos) [e, f] [] cpos) (tGet2N X td ty tx) := by
  refine ⟨fun pins s σ H Q I h => ?_⟩
  refine wpAny_Call_method m.base m.few m.line PySem.F.plainAttrs_dict PySem.F.slot_dict_get PySem.F.type_dict_get (thn (ho.run pins s σ H _ I h) fun u s1 ⟨x, H1, I1, rx, p, ob, M, ex, hp, q1⟩ => ?_)
  subst ex
  obtain rfl : u = Value.ref p := rx
  obtain ⟨R1, _⟩ := frz_dtf I1 hp
  refine ⟨(dtf_type R1).1, (dtf_type R1).2, ?_⟩
  rw [m.trees]
  refine Calls.callWith_builtin rfl (Calls.evalArgs_plain (Calls.spliced_cons (thn (he.run pins s1 σ H1 _ I1 q1) fun iv s2 ⟨y, H2, I2, ry, q2⟩ =>
    Calls.spliced_cons (thn (hf.run pins s2 σ H2 _ I2 q2) fun fv s3 ⟨z, H3, I3, rz, a, k, ey, hp3, hk, ha, hd, q3⟩ => Calls.spliced_nil ?_))))
  subst ey
  obtain rfl : iv = Value.ref a := ry
  obtain ⟨R, _⟩ := frz_dtf I3 hp3
  exact dt_get2 hu I3 R hk ha hd rz q3
/-- the keys of a locked dict, one after the other -/
def Itq (hf : NestedKey → Int) (d : Addr) (o : Obj) (M : List En) : It :=
  ⟨fun i H => H d = some (.frz o (DtO hf d M)) ∧ i < M.length, fun i H v H' => H' = H ∧ ∃ y, M[i]? = some y ∧ v = .ref y.1, fun i H => H d = some (.frz o (DtO hf d M)) ∧ M.length ≤ i⟩
theorem dtf_ents {h : Heap} {d : Addr} {o : Obj} {es : Array DictEntry} {ep : Nat} (R : DtF hf d M h) (ho : h.get? d = some o) (hod : o.data = .dict es ep) : (d == sysModules) = false ∧ o.ExactDict ∧ es.size = M.length ∧ ∀ (i : Nat) (y : En), M[i]? = some y → ∃ en : DictEntry, es[i]? = some en ∧ en.key = Value.ref y.1 := by
  obtain ⟨h1, h2, xs, c, nd, o', es', ep', e, x, dd, el⟩ := R
  rw [ho] at e
  cases e
  rw [hod] at dd
  cases dd
  have hl : es.toList.length = M.length := by rw [el, List.length_map, c.len]
  refine ⟨h1, x, by simpa using hl, fun i y hy => ?_⟩
  obtain ⟨u, hu, ru⟩ := c.at_ hy
  have z : es.toList[i]? = some (⟨hf y.2.1, .ref y.1, u⟩ : DictEntry) := by rw [el, List.getElem?_map, hu]; rfl
  exact ⟨_, by simpa using z, rfl⟩
theorem turn_q {P : Program} {w : World} {K : PySem.W.Frag} {tg : Expr} {d : Addr} {o : Obj} {es : Array DictEntry} {ep : Nat} (it : Addr) (hod : o.data = .dict es ep) : Turn P w K tg (Itq hf d o M) [it] it (fun i h => h.IsKeyIter it d i M.length ep) where
  mem := by simp
  obj := fun i h st b hb => by
    have e : b = it := by simpa using hb
    subst e
    obtain ⟨oi, e, c, dd⟩ := st
    exact ⟨oi, e, fun v z => by rw [dd] at z; cases z⟩
  keep := fun i h h' st k => st.at fun oi e => k it (by simp) oi e
  item := by
    intro X hP hw hK hc i pins s σ H E I hq st hg
    subst hP hw hK
    obtain ⟨hd, hi⟩ := hg
    obtain ⟨f0, f1, f2, f3, f4, f5⟩ := hq it (by simp)
    obtain ⟨R, hgd⟩ := frz_dtf I hd
    obtain ⟨hs, hx, hsz, ent⟩ := dtf_ents R hgd hod
    obtain ⟨y, hy⟩ : ∃ y, M[i]? = some y := ⟨M[i], List.getElem?_eq_getElem hi⟩
    obtain ⟨en, hen, hkey⟩ := ent i y hy
    refine next_key_item st hgd hod hsz hen fun h' st' sb => ?_
    have I1 : L2.Inv X pins σ H { s with heap := h' } := I.turned (t' := s.toks) (fun b ob hb e => (sb.2 b hb).trans e) f0 f1 f3 f4 f5
    obtain ⟨oi, e, c, dd⟩ := id st'
    exact ⟨en.key, rfl, go_of (s := { s with heap := h' }) e c dd (by decide) ⟨.ref y.1, H, I1, hkey, ⟨rfl, y, hy, rfl⟩, st', fun b hb => (hq b hb).1⟩⟩
  done := by
    intro X hP hw hK hc i pins s σ H E I hq st hg
    subst hP hw hK
    obtain ⟨hd, hi⟩ := hg
    obtain ⟨f0, f1, f2, f3, f4, f5⟩ := hq it (by simp)
    obtain ⟨R, hgd⟩ := frz_dtf I hd
    obtain ⟨hs, hx, hsz, ent⟩ := dtf_ents R hgd hod
    exact next_key_end (I.ok.hd hc) st hgd hod hsz hi fun h' eb => ⟨rfl, I.turned (t' := s.toks) (fun b ob hb e => eb b ob hb e) f0 f1 f3 f4 f5⟩
  self := fun A i s Q E st h => by
    refine wpAny_pyIter_slot st.typeIs F.slot_dict_keyiterator_iter (wpAny_call_entry F.slot_dict_keyiterator_iter st.typeIs F.entry_dict_keyiterator_iter ?_ (F.args_dict_keyiterator_iter_1 _))
    show wpAny _ _ (ret (.ref it)) _ _ s
    exact wpAny_pure ⟨_, rfl, "dict_keyiterator", _, st.typeIs, F.slot_dict_keyiterator_next.lookup, h⟩
theorem pi_keysN {tg e : Expr} {td : TE} (he : PE X e td) : PI X tg e (fun σ H R => td σ H fun x H1 => ∃ (d : Addr) (o : Obj) (M : List En) (hf : NestedKey → Int), x = .ref d ∧ H1 d = some (.frz o (DtO hf d M)) ∧ R (Itq hf d o M) H1) := by
  refine ⟨fun pins s σ H R I h => ?_⟩
  refine thn (he.run pins s σ H _ I h) fun u s1 ⟨x, H1, I1, rx, d, o, M, hf, ex, hd, q⟩ => ?_
  subst ex
  obtain rfl : u = Value.ref d := rx
  obtain ⟨R1, hgd⟩ := frz_dtf I1 hd
  obtain ⟨es, ep, hdt⟩ : ∃ es ep, o.data = .dict es ep := by
    obtain ⟨_, _, _, _, _, o', es', ep', e, _, dd, _⟩ := R1
    rw [hgd] at e
    cases e
    exact ⟨es', ep', dd⟩
  obtain ⟨hs, hx, hsz, _⟩ := dtf_ents R1 hgd hdt
  refine iter_keys hs hgd hx hdt (pi_one (tk := s1.toks) I1 _ (turn_q _ hdt) ⟨_, Heap.get?_push_size _ rfl, rfl, ?_⟩ q)
  rw [hsz] <;> rfl
/-- d[k] = v -/
def setN (X : Cx) : TSet := fun o i v H Q => ∃ (p a : Addr) (M : List En) (k : NestedKey), o = .ref p ∧ i = .ref a ∧ H p = some (DtO (hW X) p M) ∧ KeysOk X.K H M ∧ NK X.K H (.ref a) k ∧ k.depth ≤ 8 ∧ M.length + 1 ≤ sizeLine ∧ Q (upd H p (DtO (hW X) p (put M a k v)))
theorem set_dN (hu : X.A.units + 64 < cLine) : PSet X (setN X) := by
  intro pins s σ H o i v ov iv u Q I ro ri rv ⟨p, a, M, k, eo, ei, hp, hk, ha, hd, hz, q⟩
  subst eo ei
  obtain rfl : ov = Value.ref p := ro
  obtain rfl : iv = Value.ref a := ri
  exact dt_set hu I hp hk ha hd rv hz q
end
end Dk
namespace Dy
open PySem PySem.Spec PyProof.Rows L2 Dk Bs
section
variable {X : Cx} {a b c e : Expr} {δ δ1 δ2 δ3 : List Sl} {hf : NestedKey → Int} {es : List (D × D)} {d d2 : D} {ks : List D} {p pos : Pos} {y : Str}
theorem ent_of {K : PySem.W.Frag} {R : Hp} {v : V} (h : Is K R v (dctE hf es)) : ∃ q o M, v = .ref q ∧ R q = some (.frz o (DtO hf q M)) ∧ EntOk K R M es := by
  cases h with
  | @dct _ q o M _ _ h1 h2 h3 h4 => exact ⟨q, o, M, rfl, h1, h2, h3, h4⟩
theorem tup_ref {K : PySem.W.Frag} {R : Hp} {v : V} (h : Is K R v (.tup ks)) : ∃ q, v = .ref q := by
  cases h
  exact ⟨_, rfl⟩
theorem de_ixE (hu : X.A.units + 64 < cLine) (ha : DE X a δ (dctE (hW X) es) δ1) (hb : DE X b δ1 (.tup ks) δ2) (ko : KO 8 (.tup ks)) (kos : ∀ y ∈ es, KO 8 y.1) (h : getE es (.tup ks) = some d) (hs : NoSl b := by exact fun _ _ => rfl) : DE X (.Subscript a b pos) δ d δ2 := fun F R H σ Q s k =>
  (pe_ixN hu peW peW hs).w (ha F R H σ _ s fun x R1 H1 t1 s1 ix => hb F R1 H1 σ _ s1 fun z R2 H2 t2 s2 iz => by
    obtain ⟨q, o, M, rfl, hq, en⟩ := ent_of ix
    obtain ⟨r, rfl⟩ := tup_ref iz
    have en2 := en.mono t2.ex
    have lk := en2.look (.tup ks)
    cases e : Dk.look M (kD (.tup ks)) with
    | none =>
      rw [e] at lk
      have lk' : getE es (.tup ks) = none := lk
      rw [h] at lk'
      cases lk'
    | some v =>
      rw [e] at lk
      obtain ⟨d', h1, iv⟩ := lk
      rw [h] at h1
      cases h1
      exact ⟨q, r, o, M, _, v, rfl, rfl, s2.rg _ _ (t2.ex _ _ hq), en2.keys s2.rg kos, is_nk s2.rg ko iz, kD_depth ko, e, k v R2 H2 (t1.trans t2) s2 iv⟩)
theorem de_get2E {ap : Pos} (hu : X.A.units + 64 < cLine) (ha : DE X a δ (dctE (hW X) es) δ1) (hb : DE X b δ1 (.tup ks) δ2) (hc : DE X c δ2 d2 δ3) (ko : KO 8 (.tup ks)) (kos : ∀ y ∈ es, KO 8 y.1) (m : M2 X a "get" ap b c pos := by exact ⟨rfl, rfl, rfl, rfl⟩) :
    DE X (.Call (.Attribute a "get" ap) [b, c] [] pos) δ ((getE es (.tup ks)).getD d2) δ3 := fun F R H σ Q s k =>
  (pe_get2N hu peW peW peW m).w (ha F R H σ _ s fun x R1 H1 t1 s1 ix => by
    obtain ⟨q, o, M, rfl, hq, en⟩ := ent_of ix
    exact ⟨q, o, M, rfl, s1.rg _ _ hq, hb F R1 H1 σ _ s1 fun z R2 H2 t2 s2 iz => hc F R2 H2 σ _ s2 fun v3 R3 H3 t3 s3 i3 => by
      obtain ⟨r, rfl⟩ := tup_ref iz
      have t23 := t2.trans t3
      have en2 := en.mono t23.ex
      have lk := en2.look (.tup ks)
      refine ⟨r, _, rfl, s3.rg _ _ (t23.ex _ _ hq), en2.keys s3.rg kos, is_nk s3.rg ko (iz.mono t3.ex), kD_depth ko, ?_⟩
      cases e : Dk.look M (kD (.tup ks)) with
      | none =>
        rw [e] at lk
        have lk' : getE es (.tup ks) = none := lk
        rw [lk'] at k
        exact k v3 R3 H3 (t1.trans t23) s3 i3
      | some v =>
        rw [e] at lk
        obtain ⟨d', h1, iv⟩ := lk
        rw [h1] at k
        exact k v R3 H3 (t1.trans t23) s3 iv⟩)
theorem di_keysE {tg : Expr} (h : DE X e δ (dctE hf es) δ1) : DI X tg e δ (es.map (·.1)) δ1 := fun F R H σ Z s k =>
  (pi_keysN peW).w (h F R H σ _ s fun x R1 H1 t1 s1 ix => by
    obtain ⟨q, o, M, rfl, hq, en⟩ := ent_of ix
    refine ⟨q, o, M, hf, rfl, s1.rg _ _ hq, k _ R1 H1 t1 s1 ⟨fun H' e' => ⟨e' _ _ hq, ?_⟩, fun i H' e' hi => ⟨e' _ _ hq, ?_⟩, fun i d' H' x H'' R2 e1 e2 hd y => ?_⟩⟩
    · rw [List.length_map, en.len]; exact Nat.le_refl _
    · rw [List.length_map, ← en.len] at hi; exact hi
    · obtain ⟨rfl, z, hz, rfl⟩ := y
      obtain ⟨v, hv, iv⟩ := en.a.get hd
      unfold entA at hv
      rw [List.getElem?_map, hz] at hv
      cases hv
      exact .inl ⟨rfl, iv.mono e1⟩)
theorem ds_newC {pos' ep : Pos} {Φ : DD} (i : Nat) (q : ∀ p, Φ.nx (δ.set i (odcE (hW X) p []))) (hN : X.N.Nodup := by first | assumption | decide) (hi : X.N[i]? = some y := by rfl) (hx : Loc X.env.scope y := by first | exact Or.inl rfl | exact Or.inr rfl)
    (hs : swapsWith (.Dict [] [] ep) (some (.Name y pos')) pos.line X.env = pure false := by rfl) (hf : X.fn y = true ∨ X.env.scope.names.lookup y = some .local := by first | exact .inl rfl | exact .inr rfl) : DS X (.Assign [.Name y pos'] (.Dict [] [] ep) pos) δ Φ := fun F R H σ E s k =>
  (ps_set hN hi hx pe_new hs hf).w fun r hr => by
    have s1 := s.off (o := DtO (hW X) r []) hr
    exact k.nx R _ _ _ (Tr.refl _ _) (s1.setC (s.fr.free hr) (s.rg.free hr) upd_same .nil .nil rfl (s.noC fun hf M z => by rw [hr] at z; cases z)) (q r)
theorem ds_setE {r : Addr} {yp tp : Pos} {gs : List (D × D)} {Φ : DD} (m : Nat) (hu : X.A.units + 64 < cLine) (he : DE X e δ d δ1) (hi : δ1[m]? = some (odcE (hW X) r gs)) (hb : DE X b δ1 (.tup ks) δ2) (hi2 : δ2[m]? = some (odcE (hW X) r es)) (ko : KO 8 (.tup ks)) (kos : ∀ y ∈ es, KO 8 y.1) (hz : es.length < 1000000)
    (q : Φ.nx (δ2.set m (odcE (hW X) r (putE es (.tup ks) d)))) (hN : X.N[m]? = some y := by rfl)
    (hv : Vis X.env.scope y := by first | exact Or.inl rfl | exact Or.inr (Or.inl rfl) | exact Or.inr (Or.inr rfl)) (hyd : (y == ("__debug__" : Str)) = false := by decide) (hyc : (y == ("__classdict__" : Str)) = false := by decide)
    (ha : ∀ v, assign (.Subscript (.Name y yp) b tp) X.env v = (do
      let ov ← holding [v] (eval (.Name y yp) X.env)
      let iv ← holding [v, ov] (eval b X.env)
      standAt tp
      holding [v, ov, iv] (setItem ov iv v)
      release [v, ov, iv] []) := by intro _; rfl)
    (hs : swapsWithSole [.Subscript (.Name y yp) b tp] e pos.line X.env = pure false := by rfl) (hw : swappedStores [.Subscript (.Name y yp) b tp] e X.env = pure none := by rfl) (h1 : (assignEach [.Subscript (.Name y yp) b tp] X.env).map (·.2) = [assign (.Subscript (.Name y yp) b tp) X.env] := by rfl) :
    DS X (.Assign [.Subscript (.Name y yp) b tp] e pos) δ Φ := fun F R H σ E s k =>
  (ps_asg peW (pg_sub (pe_var hN hv hyd hyc) peW (set_dN hu) ha) hs hw h1).w (he F R H σ _ s fun v R1 H1 t1 s1 iv => ⟨.ref r, (s1.at_ m _ hi).1, hb F R1 H1 σ _ s1 fun z R2 H2 t2 s2 iz => by
    obtain ⟨w, rfl⟩ := tup_ref iz
    obtain ⟨z1, z2, z3, M, z4, z5, z6, z7⟩ := s2.at_ m _ hi2
    have en : EntOk X.K R2 M es := ⟨z5, z6, z7⟩
    have en2 := en.put iz (iv.mono t2.ex)
    exact ⟨r, w, M, _, rfl, rfl, z4, en.keys s2.rg kos, is_nk s2.rg ko iz, kD_depth ko, by rw [en.len, sizeLine_eq]; omega, k.nx R2 _ σ _ (t1.trans t2) (s2.updC hi2 en2.a en2.v en2.k) q⟩⟩)
end
end Dy

/-! part Ly30 -/
namespace Dk
open PySem PySem.Spec PyProof.Rows L2
/-! for (k), v in d.items() -/
/-- keys and values of a locked dict, in new pairs -/
def Itv (hf : NestedKey → Int) (d : Addr) (o : Obj) (M : List En) : It :=
  ⟨fun i H => H d = some (.frz o (DtO hf d M)) ∧ i < M.length, fun i H v H' => ∃ T y, M[i]? = some y ∧ v = .ref T ∧ H T = none ∧ H' = upd H T (.tup [.ref y.1, y.2.2]), fun i H => H d = some (.frz o (DtO hf d M)) ∧ M.length ≤ i⟩
section
variable {X : Cx} {pins : List (Addr × Obj)} {σ : L2.St} {H : Hp} {s : Shared} {hf : NestedKey → Int} {M : List En}
theorem dtf_pairs {h : Heap} {d : Addr} {o : Obj} {es : Array DictEntry} {ep : Nat} (R : DtF hf d M h) (ho : h.get? d = some o) (hod : o.data = .dict es ep) : (d == sysModules) = false ∧ h.DictRaw d es ep ∧ es.size = M.length ∧ ∀ (i : Nat) (hi : i < es.size), ∃ y, M[i]? = some y ∧ es[i].key = Value.ref y.1 ∧ RelV y.2.2 es[i].val := by
  obtain ⟨h1, h2, xs, c, nd, o', es', ep', e, x, dd, el⟩ := R
  rw [ho] at e
  cases e
  rw [hod] at dd
  cases dd
  have hl : es.toList.length = M.length := by rw [el, List.length_map, c.len]
  have hl' : es.size = M.length := by simpa using hl
  refine ⟨h1, ⟨o, ho, x, hod⟩, hl', fun i hi => ?_⟩
  have hy : M[i]? = some M[i] := List.getElem?_eq_getElem (by omega)
  obtain ⟨u, hu, ru⟩ := c.at_ hy
  have z : es.toList[i]? = some (⟨hf M[i].2.1, .ref M[i].1, u⟩ : DictEntry) := by rw [el, List.getElem?_map, hu]; rfl
  have z2 : es[i] = (⟨hf M[i].2.1, .ref M[i].1, u⟩ : DictEntry) := by
    have w : es[i]? = some (⟨hf M[i].2.1, .ref M[i].1, u⟩ : DictEntry) := by rw [← Array.getElem?_toList]; exact z
    rw [Array.getElem?_eq_getElem hi] at w
    exact Option.some.inj w
  exact ⟨_, hy, by rw [z2], by rw [z2]; exact ru⟩
theorem turn_v {P : Program} {w : World} {K : PySem.W.Frag} {elts : List Expr} {kk : Nat} {tpos : Pos} {d : Addr} {o : Obj} {es : Array DictEntry} {ep : Nat} (it : Addr) (hod : o.data = .dict es ep) (hsz : es.size = M.length) :
    Turn P w K (.Tuple elts kk tpos) (Itv hf d o M) [it] it (fun i h => ∃ ok ov, IsItemIter h it d i es.size ep ok ov) where
  mem := by simp
  obj := fun i h st b hb => by
    rw [List.mem_singleton.mp hb]
    obtain ⟨ok, ov, e⟩ := st
    exact ⟨_, e, fun v z => nomatch z⟩
  keep := fun i h h' st k => by
    obtain ⟨ok, ov, e⟩ := st
    exact ⟨ok, ov, k it (by simp) _ e⟩
  item := by
    intro X hP hw hK hc i pins s σ H E I hq st ⟨hd, hi⟩
    subst hP hw hK
    obtain ⟨R, hgd⟩ := frz_dtf I hd
    obtain ⟨low, raw, _, ent⟩ := dtf_pairs R hgd hod
    have his : i < es.size := by rw [hsz]; exact hi
    obtain ⟨y, hy, ek, rv⟩ := ent i his
    obtain ⟨ok, ov, he⟩ := st
    have hlt : it < s.heap.objs.size := Heap.lt_size he
    refine wpAny_pyNext_items_item_raw he raw his fun h1 ho hT hz hk => ?_
    rw [ek] at ho hT
    refine ⟨_, rfl, wpAny_letOwnedTupleGo_items (s := { s with heap := h1 }) ho fun h2 he' sb => ?_⟩
    have hT2 : h2.get? s.heap.objs.size = some { cls := .type "tuple", data := .seq #[.ref y.1, es[i].val] } := (sb.2 _ (Nat.ne_of_gt hlt)).trans hT
    have new : ObjOk X.prog X.w (upd H s.heap.objs.size (.tup [.ref y.1, y.2.2])) h2 s.heap.objs.size (.tup [.ref y.1, y.2.2]) :=
      ⟨(by decide : 2 ≤ sizeLine), [.ref y.1, es[i].val], .cons rfl (.cons rv .nil), ⟨_, hT2, rfl, _, rfl⟩⟩
    have I1 : L2.Inv X pins σ (upd H s.heap.objs.size (.tup [.ref y.1, y.2.2])) { s with heap := h2 } :=
      I.turnedNew (t' := s.toks) (ch := [it]) (fun b ob hb e => (sb.2 b fun z => hb (by rw [z]; exact List.mem_cons_self)).trans (hk b ob (fun z => hb (by rw [z]; exact List.mem_cons_self)) e)) hq (Nat.le_refl _) new
    refine ⟨.ref s.heap.objs.size, _, I1, rfl, ⟨_, y, hy, rfl, I.hok.fresh (Nat.le_refl _), rfl⟩, ⟨_, _, he'⟩, fun b hb => ?_⟩
    rw [List.mem_singleton.mp hb, upd_ne (Nat.ne_of_lt hlt)]
    exact (hq it (by simp)).1
  done := by
    intro X hP hw hK hc i pins s σ H E I hq st ⟨hd, hi⟩
    subst hP hw hK
    obtain ⟨q0, q1, q2, q3, q4, q5⟩ := hq it (by simp)
    obtain ⟨R, hgd⟩ := frz_dtf I hd
    obtain ⟨low, raw, _, ent⟩ := dtf_pairs R hgd hod
    obtain ⟨ok, ov, he⟩ := st
    exact wpAny_pyNext_items_end_raw (I.ok.hd hc) he raw (by rw [hsz]; exact hi) fun h' eb => ⟨rfl, I.turned (t' := s.toks) (fun b ob hb e => eb b ob hb e) q0 q1 q3 q4 q5⟩
  self := fun A i s Q E st h => by
    obtain ⟨_, _, e⟩ := st
    exact PySem.W.kcp_self e h
theorem pi_itemsN {elts : List Expr} {kk : Nat} {tpos : Pos} {e : Expr} {td : TE} {apos cpos : Pos} (he : PE X e td) (hbase : attributeBase e "items" X.env (eval e X.env) = eval e X.env := by rfl) (hline : (apos.endLine == cpos.line) = true := by rfl) :
    PI X (.Tuple elts kk tpos) (.Call (.Attribute e "items" apos) [] [] cpos) (fun σ H R => td σ H fun x H1 => ∃ (d : Addr) (o : Obj) (M : List En) (hf : NestedKey → Int), x = .ref d ∧ H1 d = some (.frz o (DtO hf d M)) ∧ R (Itv hf d o M) H1) := by
  refine ⟨fun pins s σ H R I h => ?_⟩
  refine wpAny_Call_method (T := "dict") (id := "dict.items") hbase rfl hline PySem.F.plainAttrs_dict PySem.F.slot_dict_items PySem.F.type_dict_items (thn (he.run pins s σ H _ I h) fun u s1 ⟨x, H1, I1, rx, d, o, M, hf, ex, hd, q⟩ => ?_)
  subst ex
  obtain rfl : u = Value.ref d := rx
  obtain ⟨R1, hgd⟩ := frz_dtf I1 hd
  obtain ⟨es, ep, hdt⟩ : ∃ es ep, o.data = .dict es ep := by
    obtain ⟨_, _, _, _, _, o', es', ep', e, _, dd, _⟩ := R1
    rw [hgd] at e
    cases e
    exact ⟨es', ep', dd⟩
  obtain ⟨low, raw, hsz, _⟩ := dtf_pairs R1 hgd hdt
  refine ⟨(dtf_type R1).1, (dtf_type R1).2, ?_⟩
  have I2 : L2.Inv X pins σ H1 { s1 with heap := s1.heap.push { cls := .type "dict_items", data := .fields #[.ref d] } } := I1.kept (t' := s1.toks) fun b ob z => Heap.get?_push_of_some _ z
  have raw2 : (s1.heap.push { cls := .type "dict_items", data := .fields #[.ref d] }).DictRaw d es ep := raw.at fun ob z => Heap.get?_push_of_some _ z
  have fin : wpAny (model X.prog X.w) X.A (pyIter (.ref s1.heap.objs.size)) (PIE X pins σ (.Tuple elts kk tpos) R) X.xe { s1 with heap := s1.heap.push { cls := .type "dict_items", data := .fields #[.ref d] } } :=
    wpAny_pyIter_items_raw (d := d) ⟨_, Heap.get?_push_size _ rfl, rfl, rfl⟩ raw2 (pi_one (tk := s1.toks) I2 _ (turn_v _ hdt hsz) ⟨.none, .none, Heap.get?_push_size _ rfl⟩ q)
  exact method_meetsIn PySem.F.slot_dict_items PySem.F.entry_dict_items rfl (PySem.evalArgs_none ⟨rfl, (dtf_type R1).1, PySem.F.args_dict_items_1 _, _, meets_dict_items_raw d low, ⟨es, ep, raw⟩, fin⟩)
end
end Dk
namespace Dy
open PySem PySem.Spec PyProof.Rows L2 Dk Bs
section
variable {X : Cx} {e : Expr} {δ δ1 : List Sl} {hf : NestedKey → Int} {es : List (D × D)} {apos cpos : Pos}
theorem di_itemsE {elts : List Expr} {kk : Nat} {tpos : Pos} (h : DE X e δ (dctE hf es) δ1) (hbase : attributeBase e "items" X.env (eval e X.env) = eval e X.env := by rfl) (hline : (apos.endLine == cpos.line) = true := by rfl) :
    DI X (.Tuple elts kk tpos) (.Call (.Attribute e "items" apos) [] [] cpos) δ (es.map fun y => D.tup [y.1, y.2]) δ1 := fun F R H σ Z s k =>
  (pi_itemsN peW hbase hline).w (h F R H σ _ s fun x R1 H1 t1 s1 ix => by
    obtain ⟨q, o, M, rfl, hq, en⟩ := ent_of ix
    refine ⟨q, o, M, hf, rfl, s1.rg _ _ hq, k _ R1 H1 t1 s1 ⟨fun H' e' => ⟨e' _ _ hq, ?_⟩, fun i H' e' hi => ⟨e' _ _ hq, ?_⟩, fun i d' H' x H'' R2 e1 e2 hd y => ?_⟩⟩
    · rw [List.length_map, en.len]; exact Nat.le_refl _
    · rw [List.length_map, ← en.len] at hi; exact hi
    · obtain ⟨T, z, hz, rfl, hT, rfl⟩ := y
      rw [List.getElem?_map] at hd
      obtain ⟨⟨kd, vd⟩, hkv, rfl⟩ := Option.map_eq_some_iff.mp hd
      obtain ⟨v1, h1, i1⟩ := en.a.get (show (es.map (·.1))[i]? = some kd by rw [List.getElem?_map, hkv]; rfl)
      obtain ⟨v2, h2, i2⟩ := en.v.get (show (es.map (·.2))[i]? = some vd by rw [List.getElem?_map, hkv]; rfl)
      unfold entA at h1
      unfold entV at h2
      rw [List.getElem?_map, hz] at h1 h2
      cases h1
      cases h2
      have hR2 : R2 T = none := e2.free hT
      have up : Same R2 (upd R2 T (.tup [.ref z.1, z.2.2])) := fun b u eb => by rw [upd_ne (ne_of_none eb hR2)]; exact eb
      exact .inr ⟨T, _, hT, rfl, .tup (.inl (.inl upd_same)) (.cons ((i1.mono e1).mono up) (.cons ((i2.mono e1).mono up) .nil))⟩)
end
end Dy

/-! part Ly31 -/
namespace Dy
open PySem PySem.Spec PyProof.Rows L2
/-! o(e, ..), o an object -/
section
variable {X : Cx} {k : Nat} {f C : Addr} {fe e : Expr} {es : List Expr} {pos : Pos} {δ δ1 δ2 : List Sl} {ns : List Str} {ds gs : List D} {d : D}
theorem pe_callOb {sp : Sp} (c : StX.CallO X.K C f) (F : FnG X.prog X.w X.K X.mg X.base CX0 k f sp) (g : Gx X k)
    (ht : eval (.Call fe (e :: es) [] pos) X.env = (do callWith pos (← eval fe X.env) [] (backTo pos (starEach (e :: es) X.env)) (backToKw pos (keywordEach [] X.env))) := by rfl)
    (hst : starEach (e :: es) X.env = (false, eval e X.env) :: starEach es X.env := by exact st_any rfl) (hpl : (backTo pos (starEach es X.env)).any (·.1) = false := by rfl) :
    PE X (.Call fe (e :: es) [] pos) (fun σ H Q => wE X fe σ H fun x H1 => ∃ a, x = .ref a ∧ wA X (e :: es) σ H1 fun vs H2 => (∃ dx fs, H2 a = some (.ins C dx fs)) ∧ sp (x :: vs) H2 Q noX) := by
  refine ⟨fun pins s σ H Q I h => ?_⟩
  refine Call_ (thn (h.run pins s I) fun u s1 ⟨x, H1, I1, rx, a, ex, q⟩ => ?_) ht
  subst ex
  obtain rfl : u = Value.ref a := rx
  refine StX.callO_with (thn (q.run pos pins s1 I1) fun us s2 ⟨vs, H2, I2, r, ⟨dx, fs, hi⟩, q2⟩ => ?_) hst hpl
  obtain ⟨ox, od, J, hd⟩ := StX.insC_at (C := C) I2 (.inr ⟨dx, fs, hi⟩)
  refine ⟨⟨C, ox, od, J, hd⟩, wpAny_call (PySem.W.kco_code I2.kIn J hd c.at_ c.fn c.fi (codeAny_mono (F X.A X.stack s2 H2 (.ref a :: us) (.ref a :: vs) Q noX g.rm g.gd I2.env0 (.cons rfl r) q2) fun r' s' hq => ?_))⟩
  match r', hq with
  | .error e, hq => exact False.elim hq
  | .ok (.ret u), hq => exact I2.after hq
  | .ok .next, hq => exact False.elim hq
  | .ok .brk, hq => exact False.elim hq
  | .ok .cont, hq => exact False.elim hq
theorem de_callO {Cc : List D → D → Prop} (c : StX.CallO X.K C f) (F : FnG X.prog X.w X.K X.mg X.base CX0 k f (spP X.K Cc)) (g : Gx X k) (ho : DE X fe δ (.obj C ns ds) δ1) (ha : DA X (e :: es) δ1 gs δ2) (cc : Cc (.obj C ns ds :: gs) d)
    (ht : eval (.Call fe (e :: es) [] pos) X.env = (do callWith pos (← eval fe X.env) [] (backTo pos (starEach (e :: es) X.env)) (backToKw pos (keywordEach [] X.env))) := by rfl)
    (hst : starEach (e :: es) X.env = (false, eval e X.env) :: starEach es X.env := by exact st_any rfl) (hpl : (backTo pos (starEach es X.env)).any (·.1) = false := by rfl) :
    DE X (.Call fe (e :: es) [] pos) δ d δ2 := fun F0 R H σ Q s k0 =>
  (pe_callOb c F g ht hst hpl).w (ho F0 R H σ _ s fun x R1 H1 t1 s1 ix => by
    cases ix with
    | @obj a _ dx fs _ _ q e1 ia =>
      refine ⟨a, rfl, ha F0 R1 H1 σ _ s1 fun vs R2 H2 t2 s2 iv => ⟨⟨dx, fs, s2.rg _ _ (t2.ex _ _ q)⟩, use_P s2 (.cons ((Is.obj q e1 ia).mono t2.ex) iv) cc fun v R3 H3 t3 s3 iv3 => k0 v R3 H3 ((t1.trans t2).trans t3) s3 iv3⟩⟩)
/-- the same, where a new list comes back -/
theorem do_callO {Cc : List D → List D → Prop} (c : StX.CallO X.K C f) (F : FnG X.prog X.w X.K X.mg X.base CX0 k f (spO X.K Cc)) (g : Gx X k) (ho : DE X fe δ (.obj C ns ds) δ1) (ha : DA X (e :: es) δ1 gs δ2) {os : List D} (cc : Cc (.obj C ns ds :: gs) os)
    (ht : eval (.Call fe (e :: es) [] pos) X.env = (do callWith pos (← eval fe X.env) [] (backTo pos (starEach (e :: es) X.env)) (backToKw pos (keywordEach [] X.env))) := by rfl)
    (hst : starEach (e :: es) X.env = (false, eval e X.env) :: starEach es X.env := by exact st_any rfl) (hpl : (backTo pos (starEach es X.env)).any (·.1) = false := by rfl) :
    DO X (.Call fe (e :: es) [] pos) δ os δ2 := fun F0 R H σ Q s k0 =>
  (pe_callOb c F g ht hst hpl).w (ho F0 R H σ _ s fun x R1 H1 t1 s1 ix => by
    cases ix with
    | @obj a _ dx fs _ _ q e1 ia =>
      refine ⟨a, rfl, ha F0 R1 H1 σ _ s1 fun vs R2 H2 t2 s2 iv => ⟨⟨dx, fs, s2.rg _ _ (t2.ex _ _ q)⟩, ?_⟩⟩
      exact use_O s2 (.cons ((Is.obj q e1 ia).mono t2.ex) iv) cc fun p xs R3 H3 t3 s3 h1 h2 h3 h4 h5 => k0 p xs R3 H3 ((t1.trans t2).trans t3) s3 h1 h2 h3 h4 h5)
end
end Dy

/-! part Ly32 -/
namespace Dk
open PySem PySem.Spec PyProof.Rows L2
/-! dict(l), l a list of pairs whose keys are tuples -/
def putAll (M N : List En) : List En := N.foldl (fun M y => put M y.1 y.2.1 y.2.2) M
theorem Ents.all : ∀ {N : List En} {ys : List (NestedKey × Addr × Value)}, Ents N ys → ∀ {M : List En} {xs : List (NestedKey × Addr × Value)}, Ents M xs → Ents (putAll M N) (storedAllH xs ys)
  | _, _, .nil, _, _, h => h
  | _, _, .cons r t, _, _, h => Ents.all t (h.put r)
theorem putAll_len : ∀ (N M : List En), (putAll M N).length ≤ M.length + N.length
  | [], M => Nat.le_refl _
  | y :: N, M => by
    have a := putAll_len N (put M y.1 y.2.1 y.2.2)
    have b := put_len M y.1 y.2.1 y.2.2
    rw [List.length_cons]
    show (putAll (put M y.1 y.2.1 y.2.2) N).length ≤ _
    omega
/-- the pairs, as they are laid -/
inductive Prs (K : PySem.W.Frag) (H : Hp) : List Addr → List En → Prop
  | nil : Prs K H [] []
  | cons {T : Addr} {y : En} {Ts : List Addr} {N : List En} : SqT K H T [.ref y.1, y.2.2] → NK K H (.ref y.1) y.2.1 → y.2.1.depth ≤ 8 → Prs K H Ts N → Prs K H (T :: Ts) (y :: N)
section
variable {X : Cx} {pins : List (Addr × Obj)} {σ : L2.St} {H : Hp} {s : Shared}
theorem Prs.len {K : PySem.W.Frag} {Ts : List Addr} {N : List En} (h : Prs K H Ts N) : Ts.length = N.length := by
  induction h with
  | nil => rfl
  | cons _ _ _ _ ih => rw [List.length_cons, List.length_cons, ih]
theorem prs_of (I : L2.Inv X pins σ H s) {Ts : List Addr} {N : List En} (h : Prs X.K H Ts N) : ∃ xs : List (NestedKey × Addr × Value), Ents N xs ∧ (∀ (j : Nat) (x : NestedKey × Addr × Value), xs[j]? = some x → ∃ T, Ts[j]? = some T ∧ s.heap.IsTuple T #[.ref x.2.1, x.2.2]) ∧ ∀ x ∈ xs, NestedIs s.heap x.1 (.ref x.2.1) ∧ x.1.depth ≤ 8 := by
  induction h with
  | nil => exact ⟨[], .nil, fun j x e => by simp at e, fun x hx => nomatch hx⟩
  | @cons T y Ts N q nk dp _ ih =>
    obtain ⟨xs, e, p, k⟩ := ih
    obtain ⟨its, rv, pl, _⟩ := I.tuple q
    cases rv with
    | @cons _ u1 _ us1 r1 rt =>
      cases rt with
      | @cons _ u2 _ us2 r2 rn =>
        cases rn
        obtain rfl : u1 = Value.ref y.1 := r1
        refine ⟨(y.2.1, y.1, u2) :: xs, .cons r2 e, fun j x hj => ?_, fun x hx => ?_⟩
        · cases j with
          | zero =>
            cases hj
            exact ⟨T, rfl, pl⟩
          | succ j => exact p j x (by simpa using hj)
        · rcases List.mem_cons.mp hx with z | hx
          · rw [z]
            exact ⟨nk_is I nk rfl, dp⟩
          · exact k x hx
theorem refs_vals : ∀ {Ts : List Addr} {us : List Value}, Vals (Ts.map V.ref) us → us = Ts.map Value.ref
  | [], us, r => by cases r; rfl
  | T :: Ts, us, r => by
    cases r with
    | cons h t =>
      cases h
      rw [List.map_cons, ← refs_vals t]
def rDictQ (X : Cx) : List V → Hp → VK → Prop := fun vs H Q => ∃ (l : Addr) (Ts : List Addr) (N : List En), vs = [.ref l] ∧ SqL X.K H l (Ts.map V.ref) ∧ Prs X.K H Ts N ∧ ∀ p, H p = none → Q (.ref p) (upd H p (DtO (hW X) p (putAll [] N)))
theorem cr_dictQ (hc : X.calm = true) (hu : X.A.units + 64 < cLine) : CallR X (.type "dict") (rDictQ X) := by
  intro pins s σ H vs us Q I r ⟨l, Ts, N, e, hl, hp, q⟩
  subst e
  rw [Vals.ref1 r]
  obtain ⟨its, rv, pl, hz⟩ := I.list hl
  obtain rfl := refs_vals rv
  rw [List.length_map] at hz
  obtain ⟨xs, en, pr, ky⟩ := prs_of I hp
  obtain ⟨o, n, ho, hcl, hd, hdat⟩ := pl
  have lT := hp.len
  have lx := en.len
  refine call_dict_pairsH (knd := nestedKind X.prog X.w) (ps := xs) (n := (xs.map fun x => (Value.ref x.2.1, x.2.2)).length) (Rel := PairRel (xs.map fun x => (Value.ref x.2.1, x.2.2))) (OK := fun h => PlainSeq "list" h l (Ts.map Value.ref).toArray ∧ PairItems h (Ts.map Value.ref).toArray (fun j => Ts.getD j 0) (xs.map fun x => (Value.ref x.2.1, x.2.2)))
    (PairArg.list l _ (fun j => Ts.getD j 0) _) (I.ok.hd hc) (by show X.A.units + 1 + 1 + 8 < cLine; omega) ⟨⟨o, n, ho, hcl, hd, hdat⟩, ?_, fun j k v hj => ?_⟩ ⟨by rw [List.length_map], fun i k v hr => ?_⟩ (fun h' keep x hx => ?_) (by rw [List.length_map, lx]; omega) fun h' tk D k => ?_
  · rw [List.size_toArray, List.length_map, List.length_map]; omega
  · rw [List.getElem?_map] at hj
    obtain ⟨x, hx, e2⟩ := Option.map_eq_some_iff.mp hj
    cases e2
    obtain ⟨T, hT, it⟩ := pr j x hx
    have eT : Ts.getD j 0 = T := by rw [List.getD_eq_getElem?_getD, hT]; rfl
    show _ = some (Value.ref (Ts.getD j 0)) ∧ PairAt s.heap (Ts.getD j 0) _ _
    rw [eT]
    exact ⟨by simp [hT], .inl it⟩
  · have hr' : (xs.map fun x => (Value.ref x.2.1, x.2.2))[i]? = some (k, v) := hr
    rw [List.getElem?_map] at hr'
    obtain ⟨x, hx, e2⟩ := Option.map_eq_some_iff.mp hr'
    cases e2
    exact ⟨x.1, x.2.1, hx, rfl⟩
  · obtain ⟨a, b⟩ := ky x hx
    exact ⟨NestedIs.at (fun c ob vs m e1 _ => keep c ob (Nat.ne_of_lt (Heap.lt_size e1)) (by simp) e1) _ _ a, b⟩
  · have low : (s.heap.objs.size == sysModules) = false := beq_eq_false_iff_ne.mpr (Ne.symm (Nat.ne_of_lt I.big))
    have R : DtF (hW X) s.heap.objs.size (putAll [] N) h' := dt_close low (by have := putAll_len N []; rw [List.length_nil] at this; omega) (en.all .nil) D
    exact ⟨.ref s.heap.objs.size, _, I.laid (t' := tk) (fun b ob e => k b ob (by simp) e) (Nat.le_refl _) (dt_ok R), rfl, q _ (I.hok.fresh (Nat.le_refl _))⟩
end
end Dk
namespace Dy
open PySem PySem.Spec PyProof.Rows L2 Dk Bs
def dictL (ps : List (D × D)) : List (D × D) := ps.foldl (fun es y => putE es y.1 y.2) []
section
variable {X : Cx} {a : Expr} {δ δ1 : List Sl} {p pos : Pos} {es : List (D × D)}
theorem prs_is {K : PySem.W.Frag} {R H : Hp} (sm : Same R H) : ∀ {ps : List (D × D)} {vs : List V}, IsA K R vs (ps.map fun y => D.tup [y.1, y.2]) → (∀ y ∈ ps, KO 8 y.1 ∧ ∃ ks, y.1 = .tup ks) → ∃ Ts N, vs = Ts.map V.ref ∧ Prs K H Ts N ∧ ∀ {M es}, EntOk K R M es → EntOk K R (putAll M N) (ps.foldl (fun es y => putE es y.1 y.2) es)
  | [], _, .nil, _ => ⟨[], [], rfl, .nil, fun e => e⟩
  | (k, d) :: ps, _, .cons i t, ko => by
    obtain ⟨Ts, N, e, pr, f⟩ := prs_is sm t fun y hy => ko y (List.mem_cons_of_mem _ hy)
    obtain ⟨k8, ks, ek⟩ := ko (k, d) List.mem_cons_self
    cases i with
    | @tup T xs _ q ia =>
      cases ia with
      | cons i1 i2 =>
        cases i2 with
        | @cons v2 _ _ _ i2 i3 =>
          cases i3
          have ek' : k = .tup ks := ek
          subst ek'
          obtain ⟨r, rfl⟩ := tup_ref i1
          exact ⟨T :: Ts, (r, kD (.tup ks), v2) :: N, by rw [List.map_cons, e], .cons (same_sqT sm q) (is_nk sm k8 i1) (kD_depth k8) pr, fun h => f (h.put i1 i2)⟩
/-- e gives a new dict -/
def DC (X : Cx) (e : Expr) (δ : List Sl) (es : List (D × D)) (δ' : List Sl) : Prop := ∀ (F R H : Hp) (σ : L2.St) (Q : VK), StOk X.K F R H σ δ →
  (∀ p M R2 H2, Tr F R R2 → StOk X.K F R2 H2 σ δ' → F p = none → R2 p = none → H2 p = some (DtO (hW X) p M) → EntOk X.K R2 M es → (∀ (i : Nat) (fs : List D), δ'[i]? ≠ some (.own p fs)) → (∀ (i : Nat) (hf : NestedKey → Int) (ks vs : List D), δ'[i]? ≠ some (.odc hf p ks vs)) → Q (.ref p) H2) → wE X e σ H Q
/-- dict(l) -/
theorem dc_dictP (hm : X.mg "dict" = none) (hu : X.A.units + 64 < cLine) {ps : List (D × D)} (h : DE X a δ (.lst (ps.map fun y => D.tup [y.1, y.2])) δ1) (ko : ∀ y ∈ ps, KO 8 y.1 ∧ ∃ ks, y.1 = .tup ks) (hc : X.calm = true := by rfl) (hg : Gl X "dict" := by rfl)
    (na : starEach [a] X.env = (false, eval a X.env) :: starEach [] X.env := by exact st_any rfl) (hpl : (backTo pos (starEach [] X.env)).any (·.1) = false := by rfl) : DC X (.Call (.Name "dict" p) [a] [] pos) δ (dictL ps) δ1 := fun F R H σ Q s k =>
  (pe_callTy (cr_dictQ hc hu) hg hm PyProof.Rows.boot_dict paW (by decide) (by decide) na hpl).w ((da_one h na) F R H σ _ s fun vs R1 H1 t1 s1 ia => by
    cases ia with
    | cons i1 i2 =>
      cases i2
      cases i1 with
      | @lst l xs _ qa ib =>
        obtain ⟨Ts, N, e, pr, f⟩ := prs_is s1.rg ib ko
        subst e
        refine ⟨l, Ts, N, rfl, SqL.of (s1.rg _ _ qa), pr, fun r hr => k r _ R1 _ t1 (s1.off hr) (s1.fr.free hr) (s1.rg.free hr) upd_same (f .nil) (fun i es z => ?_) fun i hf ks vs z => ?_⟩
        · obtain ⟨_, _, _, ys, hy, _⟩ := s1.at_ i _ z
          rw [hr] at hy
          cases hy
        · obtain ⟨_, _, _, ys, hy, _⟩ := s1.at_ i _ z
          rw [hr] at hy
          cases hy)
theorem ds_setDC {e : Expr} {y : Str} {pos' : Pos} {Φ : DD} (i : Nat) (h : DC X e δ es δ1) (q : ∀ p, Φ.nx (δ1.set i (odcE (hW X) p es))) (hN : X.N.Nodup := by first | assumption | decide) (hi : X.N[i]? = some y := by rfl) (hx : Loc X.env.scope y := by first | exact Or.inl rfl | exact Or.inr rfl)
    (hs : swapsWith e (some (.Name y pos')) pos.line X.env = pure false := by rfl) (hf : X.fn y = true ∨ X.env.scope.names.lookup y = some .local := by first | exact .inl rfl | exact .inr rfl) : DS X (.Assign [.Name y pos'] e pos) δ Φ := fun F R H σ E s k =>
  (ps_set hN hi hx peW hs hf).w (h F R H σ _ s fun p M R1 H1 t1 s1 hF hR hp en no noC => k.nx R1 H1 _ _ t1 (s1.setC hF hR hp en.a en.v en.k noC) (q p))
/-- d.get(k, x), d a dict that may still change -/
theorem pe_get2M {o e f : Expr} {apos cpos : Pos} (hu : X.A.units + 64 < cLine) (m : M2 X o "get" apos e f cpos) : PE X (.Call (.Attribute o "get" apos) [e, f] [] cpos) (fun σ H Q => wE X o σ H fun x H1 => ∃ (p : Addr) (M : List En), x = .ref p ∧ H1 p = some (DtO (hW X) p M) ∧ wE X e σ H1 fun y H2 => wE X f σ H2 fun z H3 =>
    ∃ (a : Addr) (k : NestedKey), y = .ref a ∧ H3 p = some (DtO (hW X) p M) ∧ KeysOk X.K H3 M ∧ NK X.K H3 (.ref a) k ∧ k.depth ≤ 8 ∧ Q ((look M k).getD z) H3) := by
  refine ⟨fun pins s σ H Q I h => ?_⟩
  refine wpAny_Call_method m.base m.few m.line PySem.F.plainAttrs_dict PySem.F.slot_dict_get PySem.F.type_dict_get (thn (h.run pins s I) fun u s1 ⟨x, H1, I1, rx, p, M, ex, hp, q1⟩ => ?_)
  subst ex
  obtain rfl : u = Value.ref p := rx
  have R1 : DtF (hW X) p M s1.heap := (I1.hok p _ hp).1
  refine ⟨(dtf_type R1).1, (dtf_type R1).2, ?_⟩
  rw [m.trees]
  refine Calls.callWith_builtin rfl (Calls.evalArgs_plain (Calls.spliced_cons (thn (q1.run pins s1 I1) fun iv s2 ⟨y, H2, I2, ry, q2⟩ =>
    Calls.spliced_cons (thn (q2.run pins s2 I2) fun fv s3 ⟨z, H3, I3, rz, b, k, ey, hp3, hk, ha, hd, q3⟩ => Calls.spliced_nil ?_))))
  subst ey
  obtain rfl : iv = Value.ref b := ry
  have R3 : DtF (hW X) p M s3.heap := (I3.hok p _ hp3).1
  exact dt_get2 hu I3 R3 hk ha hd rz q3
theorem de_getNew {b c : Expr} {δ2 δ3 : List Sl} {ks : List D} {d2 : D} {ap : Pos} (hu : X.A.units + 64 < cLine) (ha : DC X a δ es δ1) (hb : DE X b δ1 (.tup ks) δ2) (hc : DE X c δ2 d2 δ3) (ko : KO 8 (.tup ks)) (kos : ∀ y ∈ es, KO 8 y.1) (m : M2 X a "get" ap b c pos := by exact ⟨rfl, rfl, rfl, rfl⟩) :
    DE X (.Call (.Attribute a "get" ap) [b, c] [] pos) δ ((getE es (.tup ks)).getD d2) δ3 := fun F R H σ Q s k =>
  (pe_get2M hu m).w (ha F R H σ _ s fun p M R1 H1 t1 s1 hF hR hp en no noC => by
    obtain ⟨u1, fu⟩ := s1.up
    have hFv : frm H1 δ1 p = some (DtO (hW X) p M) := by rw [frm_not no noC, hp]
    refine ⟨p, M, rfl, hp, hb _ R1 H1 σ _ u1 fun z R2 H2 t2 s2 iz => hc _ R2 H2 σ _ s2 fun v3 R3 H3 t3 s3 i3 => ?_⟩
    obtain ⟨r, rfl⟩ := tup_ref iz
    have t23 := t2.trans t3
    have en3 := en.mono t23.ex
    have lk := en3.look (.tup ks)
    refine ⟨r, _, rfl, s3.fr p _ hFv, en3.keys s3.rg kos, is_nk s3.rg ko (iz.mono t3.ex), kD_depth ko, ?_⟩
    cases e : Dk.look M (kD (.tup ks)) with
    | none =>
      rw [e] at lk
      have lk' : getE es (.tup ks) = none := lk
      rw [lk'] at k
      exact k v3 R3 H3 (t1.trans (t23.low fu)) (s3.low fu) i3
    | some v =>
      rw [e] at lk
      obtain ⟨d', h1, iv⟩ := lk
      rw [h1] at k
      exact k v R3 H3 (t1.trans (t23.low fu)) (s3.low fu) iv)
end
end Dy

/-! part Ly33 -/
namespace Dy
open PySem PySem.Spec PyProof.Rows L2
/-! objects whose last field is a list of any data (Ly18 has those of times) -/
/-- the contract of an __init__ that ends by a list of its own, of tuples of ints -/
def spD (K : PySem.W.Frag) (C : Addr) (Cr : List D → List Str → List D → Str → List D → Prop) : Sp := fun vs H Q _ => ∃ R p dx vs' ds ns fds f ls, vs = .ref p :: vs' ∧ H p = some (.ins C dx []) ∧ R p = none ∧ Same R H ∧ IsA K R vs' ds ∧ Cr ds ns fds f ls ∧
  ∀ R2 H2 fs0 q ys, Tr H R R2 → (∀ b o, b ≠ p → H b = some o → H2 b = some o) → Same R2 H2 → R2 p = none → H2 p = some (.ins C dx (fs0 ++ [(f, V.ref q)])) → fs0.map (·.1) = ns → IsA K R2 (fs0.map (·.2)) fds → H q = none → R2 q = some (.lst ys) → IsA K R2 ys ls → Q .non H2
section
variable {P : Program} {w : World} {K : PySem.W.Frag} {mg : Str → Option Value} {base : Heap} {k : Nat} {f : Addr}
theorem fn_initD {x qual : Str} {st : Stmt} {fd : FuncData} {N ps : List Str} {C : Addr} {Cr : List D → List Str → List D → Str → List D → Prop} (F : Fun K x qual st f fd) (S : FnScope N ps (defScope st)) (hb : Binds K fd ps []) (hl : ∀ ds ns fds g ls, Cr ds ns fds g ls → ds.length + 1 = ps.length) (hN : ps.length ≤ N.length)
    (body : ∀ (cdv : Value) (A : Around) (outer : List Env) (s : Shared) (H : Hp) (E : XK) (p dx : Addr) (ds : List D) (ns : List Str) (fds : List D) (g0 : Str) (ls : List D), Gx (BX P w K mg base N qual st f cdv A outer s H E) k → Cr ds ns fds g0 ls →
      IS (BX P w K mg base N qual st f cdv A outer s H E) p C dx (defBody st) (dats (.at_ p :: ds) N.length) [] [] (PList K p C dx ns fds g0 ls)) : FnG P w K mg base CX0 (k + 1) f (spD K C Cr) := by
  refine fng_plain F S hb (fun vs H Q E ⟨R, p, dx, vs', ds, ns, fds, g0, ls, e, _, _, _, ia, c, _⟩ => by rw [e, List.length_cons, ia.len, hl _ _ _ _ _ c]) fun cdv A outer s H vs Q E g ⟨R, p, dx, vs', ds, ns, fds, g0, ls, e, hp, hn, hR, ia, c, q⟩ => wSs_nox ?_
  subst e
  have st0 : StOk K H R H (start N (.ref p :: vs')) (dats (.at_ p :: ds) N.length) := start_ok hR (.cons (.at_ p) ia) (by rw [List.length_cons, hl _ _ _ _ _ c]; exact hN)
  refine body cdv A outer s H E p dx ds ns fds g0 ls ⟨g.rm, g.gd⟩ c H R H _ _ [] ⟨st0, hp, hn, rfl, .nil⟩ fun F' R' H' σ' fs' ⟨ok, fs0, b, ys, e1, e2, e3, e4, e5, e6⟩ t e7 => ?_
  subst e1
  refine q R' H' fs0 b ys t (fun b o hb ho => ok.fr b o (e7 b o hb ho)) ok.rg ok.rp (ok.fr p _ ok.fp) e2 e3 ?_ e5 e6
  have hbp : b ≠ p := fun e => by
    rw [e, ok.fp] at e4
    cases e4
  rcases hH : H b with _ | o
  · rfl
  · rw [e7 b o hbp hH] at e4
    cases e4
end
section
variable {X : Cx} {k : Nat} {f C : Addr} {x : Str} {e : Expr} {es : List Expr} {p pos : Pos} {δ δ1 : List Sl} {ds fds hs : List D} {ns : List Str} {g0 : Str} {ls : List D}
/-- C(e, ..) by such an __init__ -/
theorem de_makeD {Cr : List D → List Str → List D → Str → List D → Prop} (M : Mk X.K C f) (F : FnG X.prog X.w X.K X.mg X.base CX0 k f (spD X.K C Cr)) (g : Gx X (k + 1)) (hm : X.mg x = some (.ref C)) (h : DA X (e :: es) δ ds δ1) (c : Cr ds ns fds g0 ls) (hg : Gl X x := by rfl) (hd : (x == ("__debug__" : Str)) = false := by decide)
    (hst : starEach (e :: es) X.env = (false, eval e X.env) :: starEach es X.env := by exact st_any rfl) (hpl : (backTo pos (starEach es X.env)).any (·.1) = false := by rfl) : DE X (.Call (.Name x p) (e :: es) [] pos) δ (.obj C (ns ++ [g0]) (fds ++ [.lst ls])) δ1 := fun F0 R H σ Q s k0 => by
  refine (pe_makeG M F g hm hg hd hst hpl).w (h F0 R H σ _ s fun vs R1 H1 t1 s1 ia y dx hy hdx hne => ?_)
  have ry : R1 y = none := s1.rg.free hy
  have fy : F0 y = none := s1.fr.free hy
  have e1 : ∀ b o, H1 b = some o → upd (upd H1 dx (.own y)) y (.ins C dx []) b = some o := fun b o q => by
    rw [upd_ne (ne_of_none q hy), upd_ne (ne_of_none q hdx)]
    exact q
  refine ⟨R1, y, dx, vs, ds, ns, fds, g0, ls, rfl, upd_same, ry, fun b o q => e1 b o (s1.rg b o q), ia, c, fun R2 H2 fs0 q ys t2 e2 r2 y2 h2 nm ib _ hq iy => ⟨rfl, ?_⟩⟩
  have keep : ∀ b o, H1 b = some o → H2 b = some o := fun b o q => e2 b o (ne_of_none q hy) (e1 b o q)
  have u2 : StOk X.K F0 R2 H2 σ δ1 := s1.after ⟨t2.ex, fun a h1 h2 => t2.nw a (by
    rcases hH : H1 a with _ | o
    · exact absurd hH h1
    · rw [e1 a o hH]
      exact fun z => by cases z) h2⟩ keep r2
  have no : ∀ (i : Nat) (es : List D), δ1[i]? ≠ some (.own y es) := fun i es z => by
    obtain ⟨_, _, _, xs, z4, _⟩ := s1.at_ i _ z
    rw [hy] at z4
    cases z4
  obtain ⟨u3, t3⟩ := u2.freeze h2 fy y2 no
  have t12 : Tr F0 R R2 := t1.trans (t2.low fun b o q => e1 b o (s1.fr b o q))
  exact k0 _ _ H2 (t12.trans t3) u3 (.obj upd_same (by rw [List.map_append, nm]; rfl) ((flds_snoc ib hq iy).mono t3.ex))
mutual
/-- data in which there is no list -/
def noL : D → Bool
  | .non => true
  | .bl _ => true
  | .int _ => true
  | .str _ => true
  | .tup ds => noLs ds
  | _ => false
def noLs : List D → Bool
  | [] => true
  | d :: ds => noL d && noLs ds
end
theorem noLs_all : ∀ {ds : List D}, (∀ d ∈ ds, noL d = true) → noLs ds = true
  | [], _ => rfl
  | d :: ds, h => by
    show (noL d && noLs ds) = true
    rw [h d List.mem_cons_self, noLs_all fun x hx => h x (List.mem_cons_of_mem _ hx)]
    rfl
mutual
theorem noL_out {K : PySem.W.Frag} {R R3 : Hp} (h : ∀ a xs, SqT K R a xs → SqT K R3 a xs) : ∀ {v : V} {d : D}, Is K R v d → noL d = true → Is K R3 v d
  | _, _, .non, _ => .non
  | _, _, .bl b, _ => .bl b
  | _, _, .int i, _ => .int i
  | _, _, .str x, _ => .str x
  | _, _, .tup q ia, n => .tup (h _ _ q) (noLs_out h ia n)
  | _, _, .lst q ia, n => by cases n
  | _, _, .rol q ia, n => by cases n
  | _, _, .obj q e ia, n => by cases n
  | _, _, .at_ p, n => by cases n
  | _, _, .emp q, n => by cases n
  | _, _, .dct q a b c, n => by cases n
  | _, _, .dii q, n => by cases n
theorem noLs_out {K : PySem.W.Frag} {R R3 : Hp} (h : ∀ a xs, SqT K R a xs → SqT K R3 a xs) : ∀ {vs : List V} {ds : List D}, IsA K R vs ds → noLs ds = true → IsA K R3 vs ds
  | _, _, .nil, _ => .nil
  | _, _, .cons i ia, n => by
    have n' : (noL _ && noLs _) = true := n
    rw [Bool.and_eq_true] at n'
    exact .cons (noL_out h i n'.1) (noLs_out h ia n'.2)
end
/-- C(e, ..) where the list in place i is handed in, and may change afterwards -/
theorem de_makeE {Cr : List D → List Str → List D → Str → List D → Prop} {r : Addr} (i : Nat) (M : Mk X.K C f) (F : FnG X.prog X.w X.K X.mg X.base CX0 k f (spD X.K C Cr)) (g : Gx X (k + 1)) (hm : X.mg x = some (.ref C)) (hi : δ[i]? = some (.own r hs)) (h : DA X (e :: es) (δ.set i (.dat (.lst hs))) ds (δ.set i (.dat (.lst hs))))
    (hints : ∀ j q as, j ≠ i → δ[j]? = some (.own q as) → ∃ ms : List Int, as = ms.map D.int) (hfl : fds.all flat = true) (hno : noLs ls = true) (c : Cr ds ns fds g0 ls) (hg : Gl X x := by rfl) (hd : (x == ("__debug__" : Str)) = false := by decide)
    (hst : starEach (e :: es) X.env = (false, eval e X.env) :: starEach es X.env := by exact st_any rfl) (hpl : (backTo pos (starEach es X.env)).any (·.1) = false := by rfl) (hnoc : ∀ (j : Nat) (hf : NestedKey → Int) (q : Addr) (ks vs : List D), δ[j]? ≠ some (.odc hf q ks vs) := by (intro j _ _ _ _ hz; repeat' (first | (cases hz; done) | (rcases j with _ | j)))) : DE X (.Call (.Name x p) (e :: es) [] pos) δ (.obj C (ns ++ [g0]) (fds ++ [.lst ls])) δ := fun F0 R H σ Q s k0 => by
  obtain ⟨a1, a2, a3, xs, a4, a5⟩ := s.at_ i _ hi
  have hl : i < δ.length := (List.getElem?_eq_some_iff.mp hi).1
  have no0 : ∀ (j : Nat) (as : List D), (δ.set i .no)[j]? ≠ some (.own r as) := fun j as z => by
    by_cases hj : j = i
    · subst hj
      rw [List.getElem?_set_self hl] at z
      cases z
    · rw [List.getElem?_set_ne (Ne.symm hj)] at z
      exact hj (s.ap j i r as hs z hi)
  obtain ⟨sf, tf⟩ := (s.forget (i := i)).freeze a4 a2 a3 no0
  have sd := sf.setD (i := i) (v := .ref r) (d := .lst hs) (.lst upd_same (a5.mono tf.ex))
  have eσ : σ.set i (some (.ref r)) = σ := by
    have hl2 : i < σ.length := by rw [s.ln]; exact hl
    have : σ[i] = some (.ref r) := by
      have z := List.getElem?_eq_getElem hl2
      rw [a1] at z
      exact (Option.some.inj z).symm
    rw [← this]
    exact List.set_getElem_self hl2
  rw [eσ, List.set_set] at sd
  refine (pe_makeG M F g hm hg hd hst hpl).w (h F0 _ H σ _ sd fun vs R1 H1 t1 s1 ia y dx hy hdx hne => ?_)
  have ry : R1 y = none := s1.rg.free hy
  have fy : F0 y = none := s1.fr.free hy
  have e1 : ∀ b o, H1 b = some o → upd (upd H1 dx (.own y)) y (.ins C dx []) b = some o := fun b o q => by
    rw [upd_ne (ne_of_none q hy), upd_ne (ne_of_none q hdx)]
    exact q
  refine ⟨R1, y, dx, vs, ds, ns, fds, g0, ls, rfl, upd_same, ry, fun b o q => e1 b o (s1.rg b o q), ia, c, fun R2 H2 fs0 q ys t2 e2 r2 y2 h2 nm ib fq hq iy => ⟨rfl, ?_⟩⟩
  have keep : ∀ b o, H1 b = some o → H2 b = some o := fun b o q => e2 b o (ne_of_none q hy) (e1 b o q)
  have r1 : R1 r = some (.lst xs) := t1.ex _ _ upd_same
  have r2r : R2 r = some (.lst xs) := t2.ex _ _ r1
  have hyr : y ≠ r := fun z => by
    rw [z, r1] at ry
    cases ry
  have hqr : q ≠ r := fun z => by
    rw [z, e1 r _ (s1.rg _ _ r1)] at fq
    cases fq
  have hqy : q ≠ y := fun z => by
    rw [z, upd_same] at fq
    cases fq
  -- what remains without the list
  let R3 : Hp := fun b => if b = r then none else if b = y then some (.ins C dx (fs0 ++ [(g0, V.ref q)])) else R2 b
  have R3o : ∀ b o, b ≠ r → R2 b = some o → R3 b = some o := fun b o hb q => by
    show (if b = r then none else if b = y then _ else R2 b) = _
    rw [if_neg hb, if_neg (show ¬ b = y from fun z => by rw [z, y2] at q; cases q)]
    exact q
  have R3y : R3 y = some (.ins C dx (fs0 ++ [(g0, V.ref q)])) := by
    show (if y = r then none else if y = y then _ else R2 y) = _
    rw [if_neg hyr, if_pos rfl]
  have R3r : R3 r = none := if_pos rfl
  have mR : Same R R3 := fun b o q => R3o b o (ne_of_none q a3) (t2.ex _ _ (t1.ex _ _ (tf.ex _ _ q)))
  have sqs : ∀ a zs, SqT X.K R2 a zs → SqT X.K R3 a zs := fun a zs q => by
    rcases q with (q | ⟨o, q⟩) | q
    · exact .inl (.inl (R3o a _ (fun z => by rw [z, r2r] at q; cases q) q))
    · exact .inl (.inr ⟨o, R3o a _ (fun z => by rw [z, r2r] at q; cases q) q⟩)
    · exact .inr q
  have obj3 : Is X.K R3 (.ref y) (.obj C (ns ++ [g0]) (fds ++ [.lst ls])) := .obj R3y (by rw [List.map_append, nm]; rfl) (flds_snoc (flat_out hfl ib) (R3o q _ hqr hq) (noLs_out sqs iy hno))
  have tr : Tr F0 R R3 := ⟨mR, fun a h1 h2 => by
    show (if a = r then none else if a = y then _ else R2 a) = none
    by_cases ha : a = r
    · rw [if_pos ha]
    · rw [if_neg ha, if_neg (show ¬ a = y from fun z => h1 (by rw [z]; exact fy))]
      have b1 : R1 a = none := t1.nw a h1 (tf.nw a h1 h2)
      refine t2.nw a ?_ b1
      rcases hF : F0 a with _ | o
      · exact absurd hF h1
      · rw [e1 a o (s1.fr a o hF)]
        exact fun z => by cases z⟩
  refine k0 _ R3 H2 tr ⟨fun b o q => keep b o (s1.fr b o q), fun b o q => ?_, s.ln, fun j z hz => ?_, s.ap, s.ap2⟩ obj3
  · have q' : (if b = r then none else if b = y then some (.ins C dx (fs0 ++ [(g0, V.ref _)])) else R2 b) = some o := q
    by_cases hb : b = r
    · rw [if_pos hb] at q'
      cases q'
    · rw [if_neg hb] at q'
      by_cases hb2 : b = y
      · rw [if_pos hb2] at q'
        cases q'
        rw [hb2]
        exact h2
      · rw [if_neg hb2] at q'
        exact r2 b o q'
  · have z0 := s.at_ j z hz
    match z, z0, hz with
    | .no, _, _ => trivial
    | .dat d, z0, _ =>
      obtain ⟨v, ev, jv⟩ := z0
      exact ⟨v, ev, jv.mono mR⟩
    | .own r' as, z0, hz =>
      obtain ⟨b1, b2, b3, zs, b4, b5⟩ := z0
      by_cases hj : j = i
      · subst hj
        rw [hi] at hz
        cases hz
        exact ⟨b1, b2, R3r, xs, r2 r _ r2r, a5.mono mR⟩
      · obtain ⟨ms, rfl⟩ := hints j r' as hj hz
        obtain ⟨c1, c2, c3, ws, c4, c5⟩ := s1.at_ j (.own r' (ms.map D.int)) (by rw [List.getElem?_set_ne (Ne.symm hj)]; exact hz)
        have hr' : r' ≠ r := fun z => hj (s.ap j i r _ hs (z ▸ hz) hi)
        have hy' : r' ≠ y := fun z => by rw [z, hy] at c4; cases c4
        refine ⟨c1, c2, ?_, ws, keep r' _ c4, by rw [c5.ints]; exact isA_ints ms⟩
        show (if r' = r then none else if r' = y then _ else R2 r') = none
        rw [if_neg hr', if_neg hy']
        exact t2.nw r' (by rw [e1 r' _ c4]; exact fun z => by cases z) c3
    | .odc hf q ks vs, z0, hz => exact absurd hz (hnoc j hf q ks vs)
end
end Dy

/-! part Ly34 -/
namespace Dy
open PySem PySem.Spec PyProof.Rows L2
section
variable {X : Cx} {δ : List Sl} {ds : List D} {p pos yp : Pos} {y : Str}
/-- len(own list) -/
theorem de_lenOwn {r : Addr} (m : Nat) (hm : X.mg "len" = none) (hi : δ[m]? = some (.own r ds)) (hN : X.N[m]? = some y := by rfl) (hv : Vis X.env.scope y := by first | exact Or.inl rfl | exact Or.inr (Or.inl rfl) | exact Or.inr (Or.inr rfl))
    (hyd : (y == ("__debug__" : Str)) = false := by decide) (hyc : (y == ("__classdict__" : Str)) = false := by decide) (hg : Gl X "len" := by rfl)
    (he : starEach [.Name y yp] X.env = (false, eval (.Name y yp) X.env) :: starEach [] X.env := by exact st_any rfl) (hpl : (backTo pos (starEach [] X.env)).any (·.1) = false := by rfl) :
    DE X (.Call (.Name "len" p) [.Name y yp] [] pos) δ (.int (ds.length : Int)) δ := fun F R H σ Q s k =>
  (pe_callB call_len_seq hg hm PySem.boot_len (pa_cons (pe_var hN hv hyd hyc) pa_nil he) (by decide) (by decide) he hpl).w (by
    obtain ⟨z0, z2, z3, xs, z4, ia⟩ := s.at_ m _ hi
    refine ⟨.ref r, z0, r, xs, rfl, .inl (SqL.of z4), ?_⟩
    rw [ia.len]
    exact k _ R H (Tr.refl _ _) s (.int _))
end
end Dy

/-! part Ly35 -/
namespace Dy
open PySem PySem.Spec PyProof.Rows L2
/-- a, b = x, y where x gives a list of its own -/
theorem ds_parO {X : Cx} {δ δ1 δ2 : List Sl} {pos : Pos} {i j : Nat} {x y : Str} {a b : Expr} {px py pt : Pos} {kt k2 : Nat} {pt2 : Pos} {ds : List D} {d2 : D} {Φ : DD} (ha : DO X a δ ds δ1) (hb : DE X b δ1 d2 δ2) (q : ∀ p, Φ.nx ((δ2.set i (.own p ds)).set j (.dat d2))) (hi : X.N[i]? = some x) (hj : X.N[j]? = some y) (hij : i ≠ j := by decide)
    (hc : X.calm = true := by rfl) (hN : X.N.Nodup := by first | assumption | decide) (hx : X.env.scope.names.lookup x = some .local := by rfl) (hy : X.env.scope.names.lookup y = some .local := by rfl)
    (hw : swappedStores [.Tuple [.Name x px, .Name y py] kt pt] (.Tuple [a, b] k2 pt2) X.env = pure (some [x, y]) := by rfl) (hs : swapsWithSole [.Tuple [.Name x px, .Name y py] kt pt] (.Tuple [a, b] k2 pt2) pos.line X.env = pure false := by rfl)
    (s1 : starEach [a, b] X.env = (false, eval a X.env) :: starEach [b] X.env := by exact st_any rfl) (s2 : starEach [b] X.env = (false, eval b X.env) :: starEach [] X.env := by exact st_any rfl) :
    DS X (.Assign [.Tuple [.Name x px, .Name y py] kt pt] (.Tuple [a, b] k2 pt2) pos) δ Φ := fun F R H σ E s k =>
  (ps_par hc hN hi hj hij hx hy (pa_cons peW (pa_cons peW pa_nil s2) s1) hw hs).w (ha F R H σ _ s fun p xs R1 H1 t1 st1 hF hR hp ia no => by
    obtain ⟨u1, fu⟩ := st1.up
    have hFv : frm H1 δ1 p = some (.lst xs) := by
      rw [frm_not no (st1.noC fun hf M z => by rw [hp] at z; cases z), hp]
    refine hb _ R1 H1 σ _ u1 fun v R2 H2 t2 st2 iv => ?_
    have hp2 : H2 p = some (.lst xs) := st2.fr p _ hFv
    have hR2 : R2 p = none := t2.nw p (by rw [hFv]; exact fun z => by cases z) hR
    have no2 : ∀ (i : Nat) (es : List D), δ2[i]? ≠ some (.own p es) := fun i es z => by
      obtain ⟨_, z2, _⟩ := st2.at_ i _ z
      rw [hFv] at z2
      cases z2
    exact ⟨_, _, rfl, k.nx R2 H2 _ _ (t1.trans (t2.low fu)) (((st2.low fu).setO hF hR2 hp2 (ia.mono t2.ex) no2).setD iv) (q p)⟩)
end Dy

/-! part Ly36 -/
namespace Dk
open PySem PySem.Spec PyProof.Rows L2
section
variable {X : Cx}
theorem all_refs : ∀ {M : List En} {vs : List Value}, vs.length = M.length → (∀ (j : Nat) (y : En) (v : Value), M[j]? = some y → vs[j]? = some v → v = .ref y.1) → Vals (M.map fun y => V.ref y.1) vs
  | [], [], _, _ => .nil
  | [], _ :: _, h, _ => by simp at h
  | _ :: _, [], h, _ => by simp at h
  | y :: M, v :: vs, h, f => .cons (f 0 y v rfl rfl) (all_refs (by simpa using h) fun j z u h1 h2 => f (j + 1) z u (by simpa using h1) (by simpa using h2))
/-- list(d) of a locked dict -/
theorem cr_listN (hc : X.calm = true) : CallR X (.type "list") (fun xs H Q => ∃ (d : Addr) (o : Obj) (M : List En) (hf : NestedKey → Int), xs = [V.ref d] ∧ H d = some (.frz o (DtO hf d M)) ∧ M.length ≤ 1000000 ∧ ∀ p, H p = none → Q (.ref p) (upd H p (.lst (M.map fun y => V.ref y.1)))) := by
  intro pins s σ H xs us Q I r h
  obtain ⟨d, o, M, hf, rfl, hd, hz, q⟩ := h
  obtain ⟨u, rfl, rx⟩ := r.one
  cases rx
  obtain ⟨R1, hgd⟩ := frz_dtf I hd
  obtain ⟨es, ep, hdt⟩ : ∃ es ep, o.data = .dict es ep := by
    obtain ⟨_, _, _, _, _, o', es', ep', e, _, dd, _⟩ := R1
    rw [hgd] at e
    cases e
    exact ⟨es', ep', dd⟩
  obtain ⟨hs, hx, hsz, ent⟩ := dtf_ents R1 hgd hdt
  refine PySem.W.kdl_call (kdl_raw hs hx hdt) (I.ok.hd hc) hgd (by rw [hsz, sizeLine_eq]; omega) fun h' tk acc' c' kp e it => ?_
  have rv : Vals (M.map fun y => V.ref y.1) acc'.toList := all_refs (by rw [Array.length_toList, it.1]; exact hsz) fun j y v hj hv => by
    obtain ⟨en, hen, ev⟩ := it.2 j v (by rw [← Array.getElem?_toList]; exact hv)
    obtain ⟨en2, hen2, ek⟩ := ent j y hj
    rw [hen] at hen2
    cases hen2
    rw [ev, ek]
  refine ⟨.ref s.heap.objs.size, _, I.laid (t' := tk) (o := .lst (M.map fun y => V.ref y.1)) kp (Nat.le_refl _) ?_, rfl, q _ (I.hok.fresh (Nat.le_refl _))⟩
  exact ⟨by rw [List.length_map, sizeLine_eq]; omega, acc'.toList, c', rv, by rw [Array.toArray_toList]; exact e⟩
end
end Dk
namespace Dy
open PySem PySem.Spec PyProof.Rows L2 Dk Bs
section
variable {X : Cx} {a e : Expr} {δ δ1 : List Sl} {p pos : Pos} {es : List (D × D)}
/-- what was made new is kept as it is from here on -/
theorem pe_lockAfter : PE X e (fun σ H Q => wE X e σ H fun v H1 => ∃ d u, H1 d = some u ∧ Mut (some u) ∧ ∀ od, Q v (upd H1 d (.frz od u))) := ⟨fun pins s σ H Q I hw =>
  thn (hw.run pins s I) fun v s1 ⟨x, H1, I1, rx, d, u, hd, mu, q⟩ => by
    obtain ⟨od, I2⟩ := I1.lock hd mu
    exact ⟨x, _, I2, rx, q od⟩⟩
theorem StOk.lockN {K : PySem.W.Frag} {F R H : Hp} {σ : L2.St} {q : Addr} {hf : NestedKey → Int} {M : List En} {o : Obj} (s : StOk K F R H σ δ) (hp : H q = some (DtO hf q M)) (hF : F q = none) (hR : R q = none) (no : ∀ (i : Nat) (fs : List D), δ[i]? ≠ some (.own q fs)) (noC : ∀ (i : Nat) (hf : NestedKey → Int) (ks vs : List D), δ[i]? ≠ some (.odc hf q ks vs)) :
    StOk K F (upd R q (.frz o (DtO hf q M))) (upd H q (.frz o (DtO hf q M))) σ δ ∧ Tr F R (upd R q (.frz o (DtO hf q M))) := by
  have mR : Same R (upd R q (.frz o (DtO hf q M))) := fun b u z => by rw [upd_ne (ne_of_none z hR)]; exact z
  refine ⟨⟨fun b u z => ?_, fun b u z => ?_, s.ln, fun i x z => ?_, s.ap, s.ap2⟩, mR, fun b h1 h2 => ?_⟩
  · rw [upd_ne (ne_of_none z hF)]
    exact s.fr b u z
  · by_cases hb : b = q
    · subst hb
      rw [upd_same] at z ⊢
      exact z
    · rw [upd_ne hb] at z ⊢
      exact s.rg b u z
  · have y := s.at_ i x z
    cases x with
    | no => trivial
    | dat d =>
      obtain ⟨v, e1, e2⟩ := y
      exact ⟨v, e1, e2.mono mR⟩
    | own r fs =>
      obtain ⟨b1, b2, b3, xs, b4, b5⟩ := y
      have hn : r ≠ q := fun w => no i fs (by rw [← w]; exact z)
      exact ⟨b1, b2, by rw [upd_ne hn]; exact b3, xs, by rw [upd_ne hn]; exact b4, b5.mono mR⟩
    | odc hf' r ks vs =>
      obtain ⟨b1, b2, b3, M', b4, b5, b6, b7⟩ := y
      have hn : r ≠ q := fun w => noC i hf' ks vs (by rw [← w]; exact z)
      exact ⟨b1, b2, by rw [upd_ne hn]; exact b3, M', by rw [upd_ne hn]; exact b4, b5.mono mR, b6.mono mR, b7⟩
  · have hb : b ≠ q := fun w => h1 (by rw [w]; exact hF)
    rw [upd_ne hb]
    exact h2
/-- a new dict that changes no more -/
theorem DC.de (h : DC X e δ es δ1) : DE X e δ (dctE (hW X) es) δ1 := fun F R H σ Q s k =>
  pe_lockAfter.w (h F R H σ _ s fun q M R1 H1 t1 s1 hF hR hp en no noC => ⟨q, _, hp, trivial, fun o => by
    obtain ⟨s2, t2⟩ := s1.lockN (o := o) hp hF hR no noC
    exact k _ _ _ (t1.trans t2) s2 (.dct upd_same (en.a.mono t2.ex) (en.v.mono t2.ex) en.k)⟩)
/-- list(d) -/
theorem do_listE {hf : NestedKey → Int} (hm : X.mg "list" = none) (h : DE X a δ (dctE hf es) δ1) (hz : es.length ≤ 1000000) (hc : X.calm = true := by rfl) (hg : Gl X "list" := by rfl) (he : starEach [a] X.env = (false, eval a X.env) :: starEach [] X.env := by exact st_any rfl) (hpl : (backTo pos (starEach [] X.env)).any (·.1) = false := by rfl) : DO X (.Call (.Name "list" p) [a] [] pos) δ (es.map (·.1)) δ1 := fun F R H σ Q s k =>
  (pe_callTy (cr_listN hc) hg hm PyProof.Rows.boot_list paW (by decide) (by decide) he hpl).w ((da_one h he) F R H σ _ s fun vs R1 H1 t1 s1 ia => by
    cases ia with
    | cons i1 i2 =>
      cases i2
      obtain ⟨q, o, M, rfl, hq, en⟩ := ent_of i1
      refine ⟨q, o, M, hf, rfl, s1.rg _ _ hq, by rw [en.len]; exact hz, fun l hl => k l _ R1 _ t1 (s1.off hl) (s1.fr.free hl) (s1.rg.free hl) upd_same en.a fun i es q => ?_⟩
      obtain ⟨_, _, _, ys, hy, _⟩ := s1.at_ i _ q
      rw [hl] at hy
      cases hy)
end
end Dy

/-! part Ly37 -/
namespace Dy
open PySem PySem.Spec PyProof.Rows L2
theorem isA_rev {K : PySem.W.Frag} {R : Hp} : ∀ {vs : List V} {ds : List D}, IsA K R vs ds → IsA K R vs.reverse ds.reverse
  | _, _, .nil => .nil
  | _, _, .cons i t => by
    rw [List.reverse_cons, List.reverse_cons]
    exact (isA_rev t).app (.cons i .nil)
section
variable {X : Cx} {k : Nat} {f C C2 : Addr} {sp : Sp} {a b c e : Expr} {p pos cp : Pos} {δ δ1 δ2 : List Sl} {d : D} {ds es : List D} {ns ns2 : List Str} {cn : Str}
/-- xs[::-1] -/
theorem do_revL {j : Nat} {p1 p2 p3 : Pos} (h : DE X e δ (.lst ds) δ1) : DO X (.Subscript e (.Slice none none (some (.UnaryOp .USub (.Constant (.int 1) j p1) p2)) p3) pos) δ ds.reverse δ1 := fun F R H σ Q s k =>
  (pe_revL peW).w (h F R H σ _ s fun x R1 H1 t1 s1 ix => by
    cases ix with
    | lst q ia =>
      refine ⟨_, _, rfl, SqL.of (s1.rg _ _ q), fun l hl => k l _ R1 _ t1 (s1.off hl) (s1.fr.free hl) (s1.rg.free hl) upd_same ?_ fun i es q => ?_⟩
      · exact isA_rev ia
      · obtain ⟨_, _, _, ys, hy, _⟩ := s1.at_ i _ q
        rw [hl] at hy
        cases hy)
/-- a, b, c = x, y, z -/
theorem ds_par3 {i j l : Nat} {x y z : Str} {px py pz pt : Pos} {kt k2 : Nat} {pt2 : Pos} {d1 d2 d3 : D} {Φ : DD} (h : DA X [a, b, c] δ [d1, d2, d3] δ1) (q : Φ.nx (((δ1.set i (.dat d1)).set j (.dat d2)).set l (.dat d3))) (hi : X.N[i]? = some x) (hj : X.N[j]? = some y) (hl : X.N[l]? = some z) (hij : i ≠ j := by decide) (hil : i ≠ l := by decide) (hjl : j ≠ l := by decide)
    (hc : X.calm = true := by rfl) (hN : X.N.Nodup := by first | assumption | decide) (hx : X.env.scope.names.lookup x = some .local := by rfl) (hy : X.env.scope.names.lookup y = some .local := by rfl) (hz : X.env.scope.names.lookup z = some .local := by rfl)
    (hw : swappedStores [.Tuple [.Name x px, .Name y py, .Name z pz] kt pt] (.Tuple [a, b, c] k2 pt2) X.env = pure (some [x, y, z]) := by rfl) (hs : swapsWithSole [.Tuple [.Name x px, .Name y py, .Name z pz] kt pt] (.Tuple [a, b, c] k2 pt2) pos.line X.env = pure false := by rfl) :
    DS X (.Assign [.Tuple [.Name x px, .Name y py, .Name z pz] kt pt] (.Tuple [a, b, c] k2 pt2) pos) δ Φ := fun F R H σ E s k =>
  (ps_par3 hc hN hi hj hl hij hil hjl hx hy hz paW hw hs).w (h F R H σ _ s fun vs R1 H1 t1 s1 ia => by
    cases ia with
    | cons i1 i2 =>
      cases i2 with
      | cons i2 i3 =>
        cases i3 with
        | cons i3 i4 =>
          cases i4
          exact ⟨_, _, _, rfl, k.nx R1 H1 _ _ t1 (((s1.setD i1).setD i2).setD i3) q⟩)
/-- -o, o an instance with its own __neg__ -/
theorem un_negG (h : Spc X.K C "__neg__" f) (F : FnG X.prog X.w X.K X.mg X.base CX0 k f sp) (g : Gx X k) : UnR X (unaryOp .USub) (fun x H Q => ∃ a dx fs, x = .ref a ∧ H a = some (.ins C dx fs) ∧ sp [.ref a] H Q noX) := by
  intro pins s σ H x v Q I rx ⟨a, dx, fs, e1, ea, q⟩
  subst e1
  cases (show v = Value.ref a from rx)
  obtain ⟨mA, O, _⟩ := ins_get I.hok ea
  obtain ⟨od, J, _⟩ := O.look
  obtain ⟨mm, hF⟩ := I.fr
  refine PySem.W.ksp_neg hF I.ok.mod.kin J h.at_ h.fn (wpAny_mono (run_at F g I (.cons (rel_ref a) .nil) q) (fun r s' z => ?_) fun _ _ x => x)
  obtain ⟨z, H', I', rz, qz⟩ := z
  exact ⟨z, H', I', rz, qz⟩
theorem de_negO {Cc : List D → D → Prop} (h : Spc X.K C "__neg__" f) (F : FnG X.prog X.w X.K X.mg X.base CX0 k f (spP X.K Cc)) (g : Gx X k) (ha : DE X a δ (.obj C ns ds) δ1) (cc : Cc [.obj C ns ds] d) : DE X (.UnaryOp .USub a pos) δ d δ1 := fun F0 R H σ Q s k0 =>
  (pe_un (un_negG h F g) peW).w (ha F0 R H σ _ s fun x R1 H1 t1 s1 ix => by
    cases ix with
    | obj q e1 ia => exact ⟨_, _, _, rfl, s1.rg _ _ q, use_P s1 (.cons (.obj q e1 ia) .nil) cc fun v R3 H3 t3 s3 iv => k0 _ R3 H3 (t1.trans t3) s3 iv⟩)
/-- an instance of another class -/
theorem nf_sub (h : PySem.W.subIn X.K (.ref C2) (.ref C) = some false) : PySem.W.notFirst X.K C (.ref C2) = true := by
  unfold PySem.W.notFirst
  rw [h]
  simp
theorem de_eqO2 {r : Bool} {t : Value} {Cc : List D → D → Prop} (h : Spc X.K C "__eq__" f) (F : FnG X.prog X.w X.K X.mg X.base CX0 k f (spP X.K Cc)) (g : Gx X k) (ha : DE X a δ (.obj C ns ds) δ1) (hb : DE X b δ1 d δ2) (ht : TyD X.K d t) (hn : PySem.W.notFirst X.K C t = true) (cc : Cc [.obj C ns ds, d] (.bl r)) :
    DE X (.Compare a [.Eq] [b] pos) δ (.bl r) δ2 := fun F0 R H σ Q s k0 =>
  (pe_cmpR (op_eqG (t := tyAt X.K) (fun _ _ _ z => z) h F g) peW peW (nomark _)).w (ha F0 R H σ _ s fun x R1 H1 t1 s1 ix => hb F0 R1 H1 σ _ s1 fun y R2 H2 t2 s2 iy => by
    have ix2 := ix.mono t2.ex
    cases ix2 with
    | obj q e1 ia => exact ⟨_, _, _, t, rfl, s2.rg _ _ q, is_TyD s2.rg iy ht, hn, use_P s2 (.cons (.obj q e1 ia) (.cons iy .nil)) cc fun v R3 H3 t3 s3 iv => by
        cases iv
        exact k0 _ R3 H3 ((t1.trans t2).trans t3) s3 (.bl _)⟩)
theorem de_neO2 {r : Bool} {t : Value} {Cc : List D → D → Prop} (n : NeO X.K C) (h : Spc X.K C "__eq__" f) (F : FnG X.prog X.w X.K X.mg X.base CX0 k f (spP X.K Cc)) (g : Gx X (k + 1)) (ha : DE X a δ (.obj C ns ds) δ1) (hb : DE X b δ1 d δ2) (ht : TyD X.K d t) (hn : PySem.W.notFirst X.K C t = true) (cc : Cc [.obj C ns ds, d] (.bl r)) :
    DE X (.Compare a [.NotEq] [b] pos) δ (.bl (!r)) δ2 := fun F0 R H σ Q s k0 =>
  (pe_cmpR (op_neG (t := tyAt X.K) (fun _ _ _ z => z) n h F g) peW peW (nomark _)).w (ha F0 R H σ _ s fun x R1 H1 t1 s1 ix => hb F0 R1 H1 σ _ s1 fun y R2 H2 t2 s2 iy => by
    have ix2 := ix.mono t2.ex
    cases ix2 with
    | obj q e1 ia => exact ⟨_, _, _, t, rfl, s2.rg _ _ q, is_TyD s2.rg iy ht, hn, use_P s2 (.cons (.obj q e1 ia) (.cons iy .nil)) cc fun v R3 H3 t3 s3 iv => by
        cases iv
        exact ⟨r, rfl, k0 _ R3 H3 ((t1.trans t2).trans t3) s3 (.bl _)⟩⟩)
theorem dt_eqO2 {r : Bool} {t : Value} {Cc : List D → D → Prop} (h : Spc X.K C "__eq__" f) (F : FnG X.prog X.w X.K X.mg X.base CX0 k f (spP X.K Cc)) (g : Gx X k) (ha : DE X a δ (.obj C ns ds) δ1) (hb : DE X b δ1 d δ2) (ht : TyD X.K d t) (hn : PySem.W.notFirst X.K C t = true) (cc : Cc [.obj C ns ds, d] (.bl r)) :
    DT X (.Compare a [.Eq] [b] pos) δ r δ2 := fun F0 R H σ Q s k0 =>
  (pt_cmpR (op_eqG (t := tyAt X.K) (fun _ _ _ z => z) h F g) peW peW (nomark _)).w (ha F0 R H σ _ s fun x R1 H1 t1 s1 ix => hb F0 R1 H1 σ _ s1 fun y R2 H2 t2 s2 iy => by
    have ix2 := ix.mono t2.ex
    cases ix2 with
    | obj q e1 ia => exact ⟨_, _, _, t, rfl, s2.rg _ _ q, is_TyD s2.rg iy ht, hn, use_P s2 (.cons (.obj q e1 ia) (.cons iy .nil)) cc fun v R3 H3 t3 s3 iv => by
        cases iv
        exact ⟨_, rfl, k0 R3 H3 ((t1.trans t2).trans t3) s3⟩⟩)
theorem dt_neO2 {r : Bool} {t : Value} {Cc : List D → D → Prop} (n : NeO X.K C) (h : Spc X.K C "__eq__" f) (F : FnG X.prog X.w X.K X.mg X.base CX0 k f (spP X.K Cc)) (g : Gx X (k + 1)) (ha : DE X a δ (.obj C ns ds) δ1) (hb : DE X b δ1 d δ2) (ht : TyD X.K d t) (hn : PySem.W.notFirst X.K C t = true) (cc : Cc [.obj C ns ds, d] (.bl r)) :
    DT X (.Compare a [.NotEq] [b] pos) δ (!r) δ2 := fun F0 R H σ Q s k0 =>
  (pt_cmpR (op_neG (t := tyAt X.K) (fun _ _ _ z => z) n h F g) peW peW (nomark _)).w (ha F0 R H σ _ s fun x R1 H1 t1 s1 ix => hb F0 R1 H1 σ _ s1 fun y R2 H2 t2 s2 iy => by
    have ix2 := ix.mono t2.ex
    cases ix2 with
    | obj q e1 ia => exact ⟨_, _, _, t, rfl, s2.rg _ _ q, is_TyD s2.rg iy ht, hn, use_P s2 (.cons (.obj q e1 ia) (.cons iy .nil)) cc fun v R3 H3 t3 s3 iv => by
        cases iv
        exact ⟨r, rfl, _, rfl, k0 R3 H3 ((t1.trans t2).trans t3) s3⟩⟩)
theorem kit_ownNo {K : PySem.W.Frag} (O : Own K C) (ne : C2 ≠ C) (h : PySem.W.subIn K (.ref C2) (.ref C) = some false) : PySem.W.kitOne K (.ref C2) (.ref C) = some false := by
  unfold PySem.W.kitOne
  rw [if_neg (by simpa using ne)]
  unfold PySem.W.kitCls
  dsimp only
  rw [if_pos O.ck]
  exact h
/-- isinstance(o', C), o' of another class -/
theorem de_isNo (O : Own X.K C) (O2 : Own X.K C2) (ne : C2 ≠ C) (hs : PySem.W.subIn X.K (.ref C2) (.ref C) = some false) (hm : X.mg "isinstance" = none) (hmc : X.mg cn = some (.ref C)) (h : DE X a δ (.obj C2 ns ds) δ1) (hg : Gl X "isinstance" := by rfl) (hgc : Gl X cn := by rfl) (hdb : (cn == ("__debug__" : Str)) = false := by decide)
    (he : starEach [a, .Name cn cp] X.env = (false, eval a X.env) :: starEach [.Name cn cp] X.env := by exact st_any rfl) (he2 : starEach [.Name cn cp] X.env = (false, eval (.Name cn cp) X.env) :: starEach [] X.env := by exact st_any rfl) (hpl : (backTo pos (starEach [.Name cn cp] X.env)).any (·.1) = false := by rfl) :
    DE X (.Call (.Name "isinstance" p) [a, .Name cn cp] [] pos) δ (.bl false) δ1 :=
  de_isX hm (pe_glob (v := .ref C) hgc hmc rfl hdb) (.own C) h (.obj O2) (kit_ownNo O ne hs) hg he he2 hpl
end
end Dy

/-! part Ly38 -/
namespace Dy
open PySem PySem.Spec PyProof.Rows L2 Dk Bs
section
variable {X : Cx} {sts : List Stmt} {δ : List Sl} {Φ : DD} {hf : NestedKey → Int} {p : Addr} {es : List (D × D)}
theorem pss_lock : PSs X sts (fun E σ H => ∃ d u, H d = some u ∧ Mut (some u) ∧ ∀ od, wSs X sts E σ (upd H d (.frz od u))) := ⟨fun pins s σ H E I h => by
  obtain ⟨d, u, hd, mu, q⟩ := h
  obtain ⟨od, I1⟩ := I.lock hd mu
  exact (q od).run pins s I1⟩
/-- a dict that changes no more -/
theorem dss_frzC (i : Nat) (hi : δ[i]? = some (odcE hf p es)) (on : OnlyC δ i) (q : DSs X sts (δ.set i (.dat (dctE hf es))) Φ) : DSs X sts δ Φ := fun F R H σ E s k => by
  obtain ⟨M, hM, a2, a3, go⟩ := bor_in s hi on
  refine (pss_lock).w ⟨p, _, hM, trivial, fun o => q F _ _ σ E (go o) (k.tr ⟨fun b u z => ?_, fun b h1 h2 => ?_⟩)⟩
  · rw [upd_ne (ne_of_none z a3)]
    exact z
  · rw [upd_ne (fun w => h1 (by rw [w]; exact a2))]
    exact h2
end
end Dy

/-! part Ly39 -/
set_option pp.maxSteps 400
namespace Dy
open PySem PySem.Spec PyProof.Rows L2 Dk
/-! x, *y = a tuple -/
theorem unp_star {prog : Program} {w : World} {A : Around} {E : Value → Shared → Prop} {s : Shared} {a : Addr} {u : Value} {us : List Value} {Q : List Value → Shared → Prop} (hh : A.handled = none) (ht : IsTup s.heap a (u :: us).toArray) (hz : us.length ≤ 1000)
    (h : ∀ (h' : Heap) (tk : Nat), (∀ b o, s.heap.get? b = some o → h'.get? b = some o) → Q [u, .ref h'.objs.size] { s with heap := h'.push { cls := .type "list", data := .seq us.toArray }, toks := tk }) :
    wpAny (model prog w) A (unpackItems (.ref a) 2 (some 1)) Q E s := by
  have there : a < s.heap.objs.size := by obtain ⟨ob, hob, _⟩ := ht; exact Heap.lt_size hob
  have apart : a ≠ s.heap.objs.size := Nat.ne_of_lt there
  unfold unpackItems notIterableAtAll
  refine wpAny_bind (wpAny_bind (wpAny_specialOf ht.typeIs slot_tuple_iter.lookup (wpAny_pure ?_)))
  simp only [Bool.false_eq_true, if_false]
  refine wpAny_bind (wpAny_holding (iter_tuple ht (wpAny_bind (wpAny_holding (draw_tuple apart 1 0 _ _ ⟨_, Heap.get?_push_size _ rfl, rfl, rfl⟩ (ht.push _) (by simp) fun hB itB sB => ?_)))))
  rw [Nat.zero_add] at itB
  have tB : IsTup hB a (u :: us).toArray := (ht.push _).extBut sB.extBut apart
  obtain ⟨oI, hoI, _⟩ := id itB
  obtain ⟨oT, hoT, _⟩ := id tB
  have e1 : ((u :: us).toArray.toList.drop 0).take 1 = [u] := rfl
  rw [e1, if_neg (show ¬ ([u].length < 1) from Nat.lt_irrefl 1)]
  refine wpAny_bind (wpAny_holding (PySem.W.kun_collect (s := { s with heap := hB }) (T := "tuple_iterator") (k := 1) (.inr (.inr (.inr rfl))) (Walks.tuple (A := A.in1) hh s.heap.objs.size a apart (u :: us).toArray) (fun j u st => st.1.typeIs) (by simp) ⟨itB, tB⟩ (Heap.lt_size hoI) (Heap.lt_size hoT) (fun hC tk hk => ?_) (by rw [List.size_toArray, List.length_cons, sizeLine_eq]; omega)))
  have e2 : (u :: us).toArray.toList.drop 1 = us := rfl
  rw [e2, if_neg (by simp)]
  have e3 : us.take (us.length - (2 - 1 - 1)) = us := List.take_of_length_le (by omega)
  have e4 : us.drop (us.length - (2 - 1 - 1)) = [] := List.drop_of_length_le (by omega)
  show wpAny _ _ (newList (us.take (us.length - (2 - 1 - 1))) >>= fun d => pure ([u] ++ [d] ++ us.drop (us.length - (2 - 1 - 1)))) _ _ _
  rw [e3, e4]
  refine wpAny_bind (wpAny_newList (wpAny_pure (h hC tk fun b o e => ?_)) (by rw [sizeLine_eq]; omega))
  have nb : b ≠ s.heap.objs.size := Nat.ne_of_lt (Heap.lt_size e)
  exact hk b o nb (sB.extBut b o nb (Heap.get?_push_of_some _ e))
def gStar (K : PySem.W.Frag) (i j : Nat) : TG := fun v σ H Q => ∃ a x xs, v = .ref a ∧ SqT K H a (x :: xs) ∧ xs.length ≤ 1000 ∧ ∀ p, H p = none → Q ((σ.set i (some x)).set j (some (.ref p))) (upd H p (.lst xs))
section
variable {X : Cx} {e : Expr} {δ δ1 : List Sl} {pos : Pos}
theorem pg_star {i j kt : Nat} {x y : Str} {px py pt : Pos} (hc : X.calm = true) (hN : X.N.Nodup) (hi : X.N[i]? = some x) (hj : X.N[j]? = some y) (hx : Loc X.env.scope x) (hy : Loc X.env.scope y) (fx : X.fn x = true ∨ X.env.scope.names.lookup x = some .local) (fy : X.fn y = true ∨ X.env.scope.names.lookup y = some .local) :
    PG X (.Tuple [.Name x px, .Starred (.Name y py) pt] kt pos) (gStar X.K i j) := by
  refine ⟨fun pins s σ H v u Q I r hw => ?_⟩
  obtain ⟨a, x0, xs, e1, hq, hl, q⟩ := hw
  subst e1
  cases r
  obtain ⟨its, rv, ht, hz⟩ := I.tuple hq
  cases rv with
  | @cons _ u0 _ us r0 rs =>
    have lus : us.length ≤ 1000 := by have := rs.length; omega
    rw [assign_Tuple]
    refine wpAny_bind (wpAny_standAt ?_)
    show wpAny _ _ (do assignInOrder [assign (.Name x px) X.env, assign (.Name y py) X.env] (← holding [.ref a] (unpackItems (.ref a) 2 (some 1)))) _ _ _
    refine wpAny_bind (wpAny_holding (unp_star (I.ok.hd hc) ht lus fun h1 tk keep => ?_))
    have I1 : L2.Inv X pins σ H { s with heap := h1, toks := tk } := I.kept keep
    have fr : H h1.objs.size = none := I1.hok.fresh (Nat.le_refl _)
    have I2 : L2.Inv X pins σ (upd H h1.objs.size (.lst xs)) { s with heap := h1.push { cls := .type "list", data := .seq us.toArray }, toks := tk } := I1.laid (t' := tk) (fun b o e => Heap.get?_push_of_some _ e) (Nat.le_refl _) ⟨by rw [sizeLine_eq]; omega, us, 0, rs, Heap.get?_push_size _ rfl⟩
    refine assignInOrder_cons (thn ((pg_name (pos := px) hN hi hx fx).run pins _ σ _ x0 u0 (fun σ' H' => σ' = σ.set i (some x0) ∧ H' = upd H h1.objs.size (.lst xs)) I2 r0 ⟨rfl, rfl⟩) fun _ s3 ⟨σ3, H3, I3, eσ, eH⟩ => ?_)
    subst eσ eH
    refine assignInOrder_cons (thn ((pg_name (pos := py) hN hj hy fy).run pins _ _ _ (.ref h1.objs.size) (.ref h1.objs.size) Q I3 rfl (q _ fr)) fun _ s4 h4 => ?_)
    exact assignInOrder_nil h4
/-- x, *y = e -/
theorem ds_star {i j kt : Nat} {x y : Str} {px py pt tp : Pos} {d0 : D} {ds : List D} {Φ : DD} (h : DE X e δ (.tup (d0 :: ds)) δ1) (hl : ds.length ≤ 1000) (q : ∀ p, Φ.nx ((δ1.set i (.dat d0)).set j (.own p ds))) (hi : X.N[i]? = some x := by rfl) (hj : X.N[j]? = some y := by rfl)
    (hc : X.calm = true := by rfl) (hN : X.N.Nodup := by first | assumption | decide) (hx : Loc X.env.scope x := by first | exact Or.inl rfl | exact Or.inr rfl) (hy : Loc X.env.scope y := by first | exact Or.inl rfl | exact Or.inr rfl)
    (fx : X.fn x = true ∨ X.env.scope.names.lookup x = some .local := by first | exact .inl rfl | exact .inr rfl) (fy : X.fn y = true ∨ X.env.scope.names.lookup y = some .local := by first | exact .inl rfl | exact .inr rfl)
    (hs : swapsWithSole [.Tuple [.Name x px, .Starred (.Name y py) pt] kt tp] e pos.line X.env = pure false := by rfl) (hw : swappedStores [.Tuple [.Name x px, .Starred (.Name y py) pt] kt tp] e X.env = pure none := by rfl)
    (h1 : (assignEach [.Tuple [.Name x px, .Starred (.Name y py) pt] kt tp] X.env).map (·.2) = [assign (.Tuple [.Name x px, .Starred (.Name y py) pt] kt tp) X.env] := by rfl) : DS X (.Assign [.Tuple [.Name x px, .Starred (.Name y py) pt] kt tp] e pos) δ Φ := fun F R H σ E s k =>
  (ps_asg peW (pg_star hc hN hi hj hx hy fx fy) hs hw h1).w (h F R H σ _ s fun v R1 H1 t1 s1 iv => by
    cases iv with
    | @tup a xs _ hq ia =>
      cases ia with
      | @cons v0 vs _ _ i0 i1 =>
        refine ⟨a, v0, vs, rfl, same_sqT s1.rg hq, by rw [i1.len]; exact hl, fun p hp => ?_⟩
        have s2 := s1.off (o := .lst vs) hp
        exact k.nx R1 _ _ _ t1 (((s2.setD i0).setO (s1.fr.free hp) (s1.rg.free hp) upd_same i1 fun m es z => by
          by_cases hm : m = i
          · rw [hm] at z
            rcases Nat.lt_or_ge i δ1.length with hlt | hge
            · rw [List.getElem?_set_self hlt] at z; cases z
            · rw [List.getElem?_eq_none (by rw [List.length_set]; exact hge)] at z; cases z
          · rw [List.getElem?_set_ne (Ne.symm hm)] at z
            obtain ⟨_, z2, z3, ys, z4, _⟩ := s1.at_ m _ z
            rw [hp] at z4
            cases z4)) (q p))
end
/-! x in (..), texts -/
theorem isA_strs {K : PySem.W.Frag} {R : Hp} : ∀ {ys : List Str} {vs : List V}, IsA K R vs (ys.map D.str) → vs = ys.map V.str
  | [], _, .nil => rfl
  | y :: ys, _, .cons i t => by
    cases i
    rw [isA_strs t]
    rfl
theorem in_strs (x : Str) : ∀ ys : List Str, inV (.str x) (ys.map V.str) = ys.any fun y => y == x
  | [] => rfl
  | y :: ys => by
    show (eqV (.str y) (.str x) || inV (.str x) (ys.map V.str)) = _
    rw [in_strs x ys]
    rfl
theorem flat_strs : ∀ ys : List Str, (ys.map V.str).all flatV = true
  | [] => rfl
  | y :: ys => flat_strs ys
section
variable {X : Cx} {a b : Expr} {δ δ1 δ2 : List Sl} {pos : Pos} {x : Str} {ys : List Str}
theorem dt_inS (ha : DE X a δ (.str x) δ1) (hb : DE X b δ1 (.tup (ys.map D.str)) δ2) (hm : behindInMarks .In b = false := by rfl) : DT X (.Compare a [.In] [b] pos) δ (ys.any fun y => y == x) δ2 := fun F R H σ Q s k =>
  (pt_cmpR op_in_seq peW peW hm).w (ha F R H σ _ s fun v R1 H1 t1 s1 i1 => hb F R1 H1 σ _ s1 fun z R2 H2 t2 s2 i2 => by
    cases i1
    cases i2 with
    | @tup p xs _ hq ia =>
      have e := isA_strs ia
      subst e
      refine ⟨p, _, rfl, .inr (same_sqT s2.rg hq), rfl, flat_strs ys, _, rfl, ?_⟩
      rw [if_neg Bool.false_ne_true, in_strs]
      exact k R2 H2 (t1.trans t2) s2)
theorem dt_notInS (ha : DE X a δ (.str x) δ1) (hb : DE X b δ1 (.tup (ys.map D.str)) δ2) (hm : behindInMarks .NotIn b = false := by rfl) : DT X (.Compare a [.NotIn] [b] pos) δ (!ys.any fun y => y == x) δ2 := fun F R H σ Q s k =>
  (pt_cmpR op_notIn_seq peW peW hm).w (ha F R H σ _ s fun v R1 H1 t1 s1 i1 => hb F R1 H1 σ _ s1 fun z R2 H2 t2 s2 i2 => by
    cases i1
    cases i2 with
    | @tup p xs _ hq ia =>
      have e := isA_strs ia
      subst e
      refine ⟨p, _, rfl, .inr (same_sqT s2.rg hq), rfl, flat_strs ys, _, rfl, ?_⟩
      rw [if_pos rfl, in_strs]
      exact k R2 H2 (t1.trans t2) s2)
theorem de_inS (ha : DE X a δ (.str x) δ1) (hb : DE X b δ1 (.tup (ys.map D.str)) δ2) (hm : behindInMarks .In b = false := by rfl) : DE X (.Compare a [.In] [b] pos) δ (.bl (ys.any fun y => y == x)) δ2 := fun F R H σ Q s k =>
  (pe_cmpR op_in_seq peW peW hm).w (ha F R H σ _ s fun v R1 H1 t1 s1 i1 => hb F R1 H1 σ _ s1 fun z R2 H2 t2 s2 i2 => by
    cases i1
    cases i2 with
    | @tup p xs _ hq ia =>
      have e := isA_strs ia
      subst e
      refine ⟨p, _, rfl, .inr (same_sqT s2.rg hq), rfl, flat_strs ys, ?_⟩
      rw [if_neg Bool.false_ne_true, in_strs]
      exact k _ R2 H2 (t1.trans t2) s2 (.bl _))
end
/-! a, b = x, {} -/
theorem ds_parDC {X : Cx} {δ δ1 : List Sl} {pos : Pos} {i j : Nat} {x y : Str} {a : Expr} {ep px py pt : Pos} {kt k2 : Nat} {pt2 : Pos} {d1 : D} {Φ : DD} (ha : DE X a δ d1 δ1) (q : ∀ p, Φ.nx ((δ1.set i (.dat d1)).set j (odcE (hW X) p []))) (hi : X.N[i]? = some x) (hj : X.N[j]? = some y) (hij : i ≠ j := by decide)
    (hc : X.calm = true := by rfl) (hN : X.N.Nodup := by first | assumption | decide) (hx : X.env.scope.names.lookup x = some .local := by rfl) (hy : X.env.scope.names.lookup y = some .local := by rfl)
    (hw : swappedStores [.Tuple [.Name x px, .Name y py] kt pt] (.Tuple [a, .Dict [] [] ep] k2 pt2) X.env = pure (some [x, y]) := by rfl) (hs : swapsWithSole [.Tuple [.Name x px, .Name y py] kt pt] (.Tuple [a, .Dict [] [] ep] k2 pt2) pos.line X.env = pure false := by rfl)
    (s1 : starEach [a, .Dict [] [] ep] X.env = (false, eval a X.env) :: starEach [.Dict [] [] ep] X.env := by exact st_any rfl) (s2 : starEach [.Dict [] [] ep] X.env = (false, eval (.Dict [] [] ep) X.env) :: starEach [] X.env := by exact st_any rfl) :
    DS X (.Assign [.Tuple [.Name x px, .Name y py] kt pt] (.Tuple [a, .Dict [] [] ep] k2 pt2) pos) δ Φ := fun F R H σ E s k =>
  (ps_par hc hN hi hj hij hx hy (pa_cons peW (pa_cons pe_new pa_nil s2) s1) hw hs).w (ha F R H σ _ s fun v R1 H1 t1 st1 iv => fun r hr => by
    have st2 := st1.off (o := DtO (hW X) r []) hr
    refine ⟨_, _, rfl, k.nx R1 _ _ _ t1 ((st2.setD iv).setC (st1.fr.free hr) (st1.rg.free hr) upd_same .nil .nil rfl fun m hf' ks' vs' z => ?_) (q r)⟩
    by_cases hm : m = i
    · rw [hm] at z
      rcases Nat.lt_or_ge i δ1.length with hlt | hge
      · rw [List.getElem?_set_self hlt] at z; cases z
      · rw [List.getElem?_eq_none (by rw [List.length_set]; exact hge)] at z; cases z
    · rw [List.getElem?_set_ne (Ne.symm hm)] at z
      exact st1.noC (fun hf M z => by rw [hr] at z; cases z) m hf' ks' vs' z)
end Dy

/-! part Ly56 -/
set_option pp.maxSteps 400
/-! match: texts, and pairs that are named -/
namespace Dy
open PySem PySem.Spec PyProof.Rows L2
structure wM (X : Cx) (cs : List MatchCase) (u : Value) (first : Bool) (E : Ends) (σ : L2.St) (H : Hp) : Prop where
  run : ∀ (pins : List (Addr × Obj)) (s : Shared), L2.Inv X pins σ H s → wpAny (model X.prog X.w) X.A (matchCases cs X.env u first) (SP X pins E) X.xe s
def DM (X : Cx) (cs : List MatchCase) (d : D) (δ : List Sl) (Φ : DD) : Prop := ∀ (F R H : Hp) (σ : L2.St) (E : Ends) (v : V) (u : Value) (first : Bool), StOk X.K F R H σ δ → EnOk X.K F R Φ E → Is X.K R v d → RelV v u → wM X cs u first E σ H
section
variable {X : Cx} {k n : Nat} {e : Expr} {cs : List MatchCase} {body : List Stmt} {δ δ1 : List Sl} {d d1 d2 : D} {Φ : DD} {pos ep : Pos}
theorem ds_match (h : DE X e δ d δ1) (m : DM X cs d δ1 Φ) : DS X (.Match e cs pos) δ Φ := fun F R H σ E s kq => ⟨fun pins sh I =>
  wpAny_Match (thn ((h F R H σ (fun v H2 => ∀ u, RelV v u → wM X cs u true E σ H2) s (fun v R2 H2 t s2 iv u r => m F R2 H2 σ E v u true s2 (kq.tr t) iv r)).run pins sh I) fun u s1 z => by
    obtain ⟨v, H2, I2, r, q⟩ := z
    exact (q u r).run pins s1 I2)⟩
theorem dm_nil (q : Φ.nx δ) : DM X [] d δ Φ := fun F R H σ E v u first s kq iv r => ⟨fun pins sh I => wpAny_matchCases_nil ⟨σ, H, I, kq.nx R H σ δ (Tr.refl _ _) s q⟩⟩
/-- case "text" -/
theorem dm_str {x : Str} {j : Nat} {m : Bool} (g : Gx X k) (o : okD n d = true) (o2 : okD n (.str x) = true) (b : PyData.eqv (py d) (py (.str x)) = m) (ht : m = true → DSs X body δ Φ) (hf : m = false → DM X cs d δ Φ) (hn6 : n ≤ 60 := by decide) :
    DM X (⟨.MatchValue (.Constant (.str x) j ep) pos, none, body⟩ :: cs) d δ Φ := fun F R H σ E v u first s kq iv r => ⟨fun pins sh I => by
  refine wpAny_matchCases_cons (wpAny_matchPattern_Value ?_)
  refine thn ((pe_str (X := X) (x := x) (pos := ep) (j := j)).run pins sh σ H (fun y H2 => y = .str x ∧ H2 = H) I ⟨rfl, rfl⟩) fun w s1 z => ?_
  obtain ⟨y, H2, I2, r2, rfl, rfl⟩ := z
  refine thn (op_eqD (X := X) g.rm.units pins s1 σ H2 v (.str x) u w (fun c H3 => c = .bl m ∧ H3 = H2) I2 r r2 ⟨_, _, ok_dp s.rg n d v o iv, ok_dp s.rg n (.str x) (.str x) o2 (.str x), ok_shaped o hn6, ok_shaped o2 hn6, by rw [b], rfl⟩) fun c s2 z => ?_
  obtain ⟨c1, H3, I3, r3, rfl, rfl⟩ := z
  cases r3
  refine wpAny_truthy_bool ?_
  cases hm : m with
  | true => exact wpAny_assignInOrder_none ((ht hm F R H3 σ E s kq).run pins s2 I3)
  | false => exact (hf hm F R H3 σ E v u false s kq iv r).run pins s2 I3⟩
/-- case (a, b), of a tuple of two -/
theorem dm_two {a b : Str} {i j : Nat} {pa pb : Pos} (hq : DSs X body ((δ.set i (.dat d1)).set j (.dat d2)) Φ) (hi : X.N[i]? = some a := by rfl) (hj : X.N[j]? = some b := by rfl) (hc : X.calm = true := by rfl) (hN : X.N.Nodup := by first | assumption | decide)
    (hx : Loc X.env.scope a := by first | exact Or.inl rfl | exact Or.inr rfl) (hy : Loc X.env.scope b := by first | exact Or.inl rfl | exact Or.inr rfl)
    (hf : X.fn a = true ∨ X.env.scope.names.lookup a = some .local := by first | exact .inl rfl | exact .inr rfl) (hg : X.fn b = true ∨ X.env.scope.names.lookup b = some .local := by first | exact .inl rfl | exact .inr rfl) :
    DM X (⟨.MatchSequence [.MatchAs none (some a) pa, .MatchAs none (some b) pb] pos, none, body⟩ :: cs) (.tup [d1, d2]) δ Φ := fun F R H σ E v u first s kq iv r => ⟨fun pins sh I => by
  cases iv with
  | @tup p xs _ hsq ia =>
    cases ia with
    | @cons v1 _ _ _ i1 ia =>
      cases ia with
      | @cons v2 _ _ _ i2 ia =>
        cases ia
        cases r
        obtain ⟨its, rv, ht, hz⟩ := I.tuple (same_sqT s.rg hsq)
        have hl : its.length = 2 := rv.length.symm
        have ht2 : IsTup sh.heap p its.toArray := ht
        refine wpAny_matchCases_cons (matchSeq_tuple_hit ht2 (by rw [List.size_toArray, hl]; decide) (by rw [List.size_toArray, hl]; rfl) ?_ rfl rfl)
        have e2 : [Pattern.MatchAs none (some a) pa, Pattern.MatchAs none (some b) pb].length = its.toArray.size := by rw [List.size_toArray, hl]; rfl
        rw [e2]
        refine unpackItems_tuple (I.ok.hd hc) ht2 fun h' hx' => ?_
        have I1 : Inv X pins σ H { sh with heap := h', toks := sh.toks + 1 + 1 } := I.kept (t' := sh.toks + 1 + 1) fun b o e => hx' b o (Nat.ne_of_lt (Heap.lt_size e)) e
        show wpAny _ _ (matchEach _ _ its) _ _ _
        clear e2 hx' ht ht2 hz
        revert hl
        revert rv
        generalize its = us
        intro rv hl
        cases rv with
        | @cons _ u1 _ _ r1 rv =>
          cases rv with
          | @cons _ u2 _ _ r2 rv =>
            cases rv
            refine wpAny_matchEach_cons (wpAny_matchPattern_Capture ?_) rfl
            dsimp only
            refine wpAny_matchEach_cons (wpAny_matchPattern_Capture ?_) rfl
            dsimp only
            refine wpAny_matchEach_nil ?_
            dsimp only
            refine wpAny_assignInOrder_more (wpAny_bindName (store_ok I1 hN hi hx r1 (fun s1 I2 => ?_) hf))
            refine wpAny_assignInOrder_more (wpAny_bindName (store_ok I2 hN hj hy r2 (fun s2 I3 => ?_) hg))
            refine wpAny_assignInOrder_none ?_
            have z := (s.setD (i := i) (i1)).setD (i := j) (i2)
            exact (hq F R H _ E z kq).run pins s2 I3⟩
end
end Dy

/-! part Ly57 -/
set_option pp.maxSteps 400
/-! data in a tuple of data; tuples of texts that stand at the top -/
namespace Dy
open PySem PySem.Spec PyProof.Rows L2
section
variable {X : Cx}
def rInTD (K : PySem.W.Frag) : R2 := fun x y H Q => ∃ d ds, Dp K H x d ∧ Dp K H y (.tuple ds) ∧ SeqAt.shaped d = true ∧ SeqAt.shaped (.tuple ds) = true ∧ Q (.bl (ds.any fun z => PyData.eqv z d)) H
theorem op_inTD (hu : X.A.units + 65 < cLine) : OpR X (compareOp .In) (rInTD X.K) := by
  intro pins s σ H x y v u Q I rx ry h
  obtain ⟨d, ds, hd, he, sd, se, q⟩ := h
  obtain ⟨as, r1⟩ := Dp.reads I d x v hd rx
  obtain ⟨bs, r2⟩ := Dp.reads I (.tuple ds) y u he ry
  exact SeqAt.in_tuple_reads r2 r1 (SeqAt.canLay_of_shaped se) (SeqAt.canLay_of_shaped sd) (room_in_shaped sd hu) ⟨.bl _, H, I, rfl, q⟩
variable {k n : Nat} {a b : Expr} {δ δ1 δ2 : List Sl} {pos : Pos} {d : D} {ds : List D}
theorem dt_inTD (g : Gx X k) (ha : DE X a δ d δ1) (hb : DE X b δ1 (.tup ds) δ2) (o1 : okD n d = true) (o2 : okD n (.tup ds) = true) (hm : behindInMarks .In b = false := by rfl) (hn6 : n ≤ 60 := by decide) : DT X (.Compare a [.In] [b] pos) δ ((pys ds).any fun z => PyData.eqv z (py d)) δ2 := fun F R H σ Q s kq =>
  (pt_cmpR (op_inTD (by have := g.rm.un; omega)) peW peW hm).w (ha F R H σ _ s fun x R1 H1 t1 s1 ix => hb F R1 H1 σ _ s1 fun y R2 H2 t2 s2 iy =>
    ⟨_, _, ok_dp s2.rg n d x o1 (ix.mono t2.ex), ok_dp s2.rg n (.tup ds) y o2 iy, ok_shaped o1 hn6, ok_shaped o2 hn6, _, rfl, kq R2 H2 (t1.trans t2) s2⟩)
theorem isA_strsI {K : PySem.W.Frag} {R : Hp} : ∀ ys : List Str, IsA K R (ys.map V.str) (ys.map D.str)
  | [] => .nil
  | y :: ys => .cons (.str y) (isA_strsI ys)
/-- a tuple of texts at the top -/
def TopS (K : PySem.W.Frag) (mg : Str → Option Value) (x : Str) (ys : List Str) : Prop := ∃ (a : Addr) (o : Obj) (its : Array Value) (n : Nat), mg x = some (.ref a) ∧ K.lookup a = some o ∧ o.cls = .type "tuple" ∧ o.data = .seq its n ∧ its.size ≤ sizeLine ∧ Vals (ys.map V.str) its.toList
theorem de_globS {x : Str} {ys : List Str} (hm : TopS X.K X.mg x ys) (hg : Gl X x := by rfl) (hd : (x == ("__debug__" : Str)) = false := by decide) : DE X (.Name x pos) δ (.tup (ys.map D.str)) δ := fun F R H σ Q s k => by
  obtain ⟨a, o, its, m, h1, h2, h3, h4, h5, h6⟩ := hm
  exact (pe_glob (v := .ref a) hg h1 rfl hd).w (k _ R H (Tr.refl _ _) s (.tup (.inr ⟨o, its, m, h2, h3, h4, h5, h6⟩) (isA_strsI ys)))
end
end Dy

/-! part Ly58 -/
set_option pp.maxSteps 400
/-! a, b = {}, [] -/
namespace Dy
open PySem PySem.Spec PyProof.Rows L2 Dk Bs
theorem ds_parCO {X : Cx} {δ : List Sl} {pos : Pos} {i j : Nat} {x y : Str} {ep lp px py pt : Pos} {kt k2 : Nat} {pt2 : Pos} {Φ : DD} (q : ∀ r p, Φ.nx ((δ.set i (odcE (hW X) r [])).set j (.own p []))) (hi : X.N[i]? = some x) (hj : X.N[j]? = some y) (hij : i ≠ j := by decide)
    (hc : X.calm = true := by rfl) (hN : X.N.Nodup := by first | assumption | decide) (hx : X.env.scope.names.lookup x = some .local := by rfl) (hy : X.env.scope.names.lookup y = some .local := by rfl)
    (hw : swappedStores [.Tuple [.Name x px, .Name y py] kt pt] (.Tuple [.Dict [] [] ep, .List [] lp] k2 pt2) X.env = pure (some [x, y]) := by rfl) (hs : swapsWithSole [.Tuple [.Name x px, .Name y py] kt pt] (.Tuple [.Dict [] [] ep, .List [] lp] k2 pt2) pos.line X.env = pure false := by rfl)
    (s1 : starEach [.Dict [] [] ep, .List [] lp] X.env = (false, eval (.Dict [] [] ep) X.env) :: starEach [.List [] lp] X.env := by exact st_any rfl) (s2 : starEach [.List [] lp] X.env = (false, eval (.List [] lp) X.env) :: starEach [] X.env := by exact st_any rfl) :
    DS X (.Assign [.Tuple [.Name x px, .Name y py] kt pt] (.Tuple [.Dict [] [] ep, .List [] lp] k2 pt2) pos) δ Φ := fun F R H σ E s k =>
  (ps_par hc hN hi hj hij hx hy (pa_cons pe_new (pa_cons (pe_lst pa_nil) pa_nil s2) s1) hw hs).w (fun r hr => by
    refine ⟨by exact Nat.zero_le _, fun p hp => ?_⟩
    have st1 := s.off (o := DtO (hW X) r []) hr
    have st2 := st1.off (o := HO.lst []) hp
    have ne : r ≠ p := fun e => by rw [e, upd_same] at hp; cases hp
    have hr2 : upd (upd H r (DtO (hW X) r [])) p (.lst []) r = some (DtO (hW X) r []) := by rw [upd_ne ne, upd_same]
    have hp0 : H p = none := by rw [upd_ne (fun e => ne e.symm)] at hp; exact hp
    refine ⟨_, _, rfl, k.nx R _ _ _ (Tr.refl _ _) ((st2.setC (i := i) (s.fr.free hr) (s.rg.free hr) hr2 .nil .nil rfl (s.noC fun hf M z => by rw [hr] at z; cases z)).setO (i := j) (s.fr.free hp0) (s.rg.free hp0) upd_same .nil fun m es z => ?_) (q r p)⟩
    by_cases hm : m = i
    · rw [hm] at z
      rcases Nat.lt_or_ge i δ.length with hlt | hge
      · rw [List.getElem?_set_self hlt] at z; cases z
      · rw [List.getElem?_eq_none (by rw [List.length_set]; exact hge)] at z; cases z
    · rw [List.getElem?_set_ne (Ne.symm hm)] at z
      obtain ⟨_, _, _, ys, hy, _⟩ := s.at_ m _ z
      rw [hp0] at hy
      cases hy)
end Dy

/-! part Ly59 -/
set_option pp.maxSteps 400
namespace Dy
open PySem PySem.Spec PyProof.Rows L2
/-! objects whose attributes are put by a method of their own (self.keep(..)), once or more -/
/-- the contract of such a method: the attributes are set, new or again -/
def spKeep (C : Addr) (nsB : List Str) : Sp := fun vs H Q _ => ∃ p dx us fs, vs = .ref p :: us ∧ us.length = nsB.length ∧ H p = some (.ins C dx fs) ∧ (fs = [] ∨ fs.map (·.1) = nsB) ∧ Q .non (upd H p (.ins C dx (nsB.zip us)))
theorem zip_fst {ns : List Str} {us : List V} (h : us.length = ns.length) : (ns.zip us).map (·.1) = ns := by
  rw [← List.unzip_fst, List.unzip_zip h.symm]
theorem zip_snd {ns : List Str} {us : List V} (h : us.length = ns.length) : (ns.zip us).map (·.2) = us := by
  rw [← List.unzip_snd, List.unzip_zip h.symm]
theorem upd2 {H : Hp} {p : Addr} {a b : HO} : upd (upd H p a) p b = upd H p b := by
  funext q
  by_cases h : q = p
  · rw [h, upd_same, upd_same]
  · rw [upd_ne h, upd_ne h, upd_ne h]
/-- the object in the frame gets other attributes -/
theorem StOk.put {K : PySem.W.Frag} {F R H : Hp} {σ : L2.St} {δ : List Sl} {p C dx : Addr} {fs fs' : List (Str × V)} (s1 : StOk K F R H σ δ) (hF : F p = some (.ins C dx fs)) (hR : R p = none) : StOk K (upd F p (.ins C dx fs')) R (upd H p (.ins C dx fs')) σ δ := by
  have hp1 : H p = some (.ins C dx fs) := s1.fr p _ hF
  refine ⟨fun b o q => ?_, fun b o q => ?_, s1.ln, fun j x q => ?_, s1.ap, s1.ap2⟩
  · by_cases hb : b = p
    · subst hb
      rw [upd_same] at q ⊢
      exact q
    · rw [upd_ne hb] at q ⊢
      exact s1.fr b o q
  · rw [upd_ne (ne_of_none q hR)]
    exact s1.rg b o q
  · have z := s1.at_ j x q
    match x, z with
    | .no, _ => trivial
    | .dat d, z => exact z
    | .own r as, z =>
      obtain ⟨z1, z2, z3, xs, z4, z5⟩ := z
      have hne : r ≠ p := fun e => by
        subst e
        rw [hp1] at z4
        cases z4
      exact ⟨z1, by rw [upd_ne hne]; exact z2, z3, xs, by rw [upd_ne hne]; exact z4, z5⟩
    | .odc hf r ks vs, z =>
      obtain ⟨z1, z2, z3, M, z4, z5⟩ := z
      have hne : r ≠ p := fun e => by
        subst e
        rw [hp1] at z4
        cases z4
      exact ⟨z1, by rw [upd_ne hne]; exact z2, z3, M, by rw [upd_ne hne]; exact z4, z5⟩
section
variable {X : Cx} {k : Nat} {f C p dx : Addr} {m y : Str} {yp apos pos pos' : Pos} {e : Expr} {es : List Expr} {δ δ1 : List Sl} {ds : List D} {nsB : List Str} {pl : Sem Bool}
/-- at last in an __init__: self.keep(e, ..) -/
theorem is_keep (i : Nat) (c : Cls X.K C) (hm : Meth X.K C m f) (F : FnG X.prog X.w X.K X.mg X.base CX0 k f (spKeep C nsB)) (g : Gx X k) (hi : δ[i]? = some (.dat (.at_ p))) (ha : DA X (e :: es) δ ds δ1) (hl : ds.length = nsB.length) (hN : X.N[i]? = some y := by rfl)
    (hv : Vis X.env.scope y := by first | exact Or.inl rfl | exact Or.inr (Or.inl rfl) | exact Or.inr (Or.inr rfl)) (hyd : (y == ("__debug__" : Str)) = false := by decide) (hyc : (y == ("__classdict__" : Str)) = false := by decide)
    (hst : starEach (e :: es) X.env = (false, eval e X.env) :: starEach es X.env := by exact st_any rfl) (hpl : (backTo pos (starEach es X.env)).any (·.1) = false := by rfl)
    (ht : eval (.Call (.Attribute (.Name y yp) m apos) (e :: es) [] pos) X.env = (do
      let ov ← eval (.Name y yp) X.env
      standAt apos.atName
      let (f, first) ← holding [ov] (getMethod ov m pl)
      callWith pos f first (backTo pos (starEach (e :: es) X.env)) (backToKw pos (keywordEach [] X.env))) := by rfl)
    (hs : swapsWith (.Call (.Attribute (.Name y yp) m apos) (e :: es) [] pos) none pos'.line X.env = pure false := by rfl) : IS X p C dx [.Expr (.Call (.Attribute (.Name y yp) m apos) (e :: es) [] pos) pos'] δ [] [] (PData X.K p C dx nsB ds) := fun F0 R H σ E fs ok k0 => by
  have fs0 : fs = [] := List.map_eq_nil_iff.mp ok.nm
  subst fs0
  refine (pss_cons psW pssW).w ((ps_expr peW hs).w ((pe_methG c hm F g hst hpl ht).w ((pe_var hN hv hyd hyc).w ?_)))
  obtain ⟨w, hw, iw⟩ := ok.st.at_ i _ hi
  cases iw
  refine ⟨_, hw, p, dx, [], rfl, ok.st.fr p _ ok.fp, rfl, ha F0 R H σ _ ok.st fun vs R1 H1 t1 s1 ia => ?_⟩
  have hl2 : vs.length = nsB.length := by rw [ia.len, hl]
  have rp1 : R1 p = none := t1.nw p (by rw [ok.fp]; exact fun z => by cases z) ok.rp
  refine ⟨p, dx, vs, [], rfl, hl2, s1.fr p _ ok.fp, .inl rfl, ?_⟩
  refine (pss_nil).w (k0 (upd F0 p (.ins C dx (nsB.zip vs))) R1 _ σ (nsB.zip vs) ⟨⟨fun b o q => ?_, fun b o q => ?_, upd_same, rp1⟩, zip_fst hl2, by rw [zip_snd hl2]; exact ia⟩ t1 fun b o hb q => by rw [upd_ne hb]; exact q)
  · exact (s1.put ok.fp rp1).fr b o q
  · exact (s1.put (fs' := nsB.zip vs) ok.fp rp1).rg b o q
end
theorem StOk.hold {K : PySem.W.Frag} {F R H : Hp} {σ : L2.St} {δ : List Sl} {p : Addr} {o : HO} (s : StOk K F R H σ δ) (h : H p = some o) (no : ∀ (i : Nat) (es : List D), δ[i]? ≠ some (.own p es)) (no2 : ∀ (i : Nat) (hf : NestedKey → Int) (ks vs : List D), δ[i]? ≠ some (.odc hf p ks vs)) : StOk K (upd F p o) R H σ δ := by
  refine ⟨fun b u q => ?_, s.rg, s.ln, fun j x q => ?_, s.ap, s.ap2⟩
  · by_cases hb : b = p
    · subst hb
      rw [upd_same] at q
      rw [h]
      exact q
    · rw [upd_ne hb] at q
      exact s.fr b u q
  · have z := s.at_ j x q
    match x, z, q with
    | .no, _, _ => trivial
    | .dat d, z, _ => exact z
    | .own r as, z, q =>
      obtain ⟨z1, z2, z3, z4⟩ := z
      have hne : r ≠ p := fun e => no j as (e ▸ q)
      exact ⟨z1, by rw [upd_ne hne]; exact z2, z3, z4⟩
    | .odc hf r ks vs, z, q =>
      obtain ⟨z1, z2, z3, z4⟩ := z
      have hne : r ≠ p := fun e => no2 j hf ks vs (e ▸ q)
      exact ⟨z1, by rw [upd_ne hne]; exact z2, z3, z4⟩
section
variable {X : Cx} {k k2 : Nat} {f f2 C : Addr} {m x b : Str} {p1 p3 p6 apos pos1 pos2 pos4 pos5 pos7 px : Pos} {e e' : Expr} {es es' : List Expr} {δ δ1 : List Sl} {δ2 : Addr → List Sl} {ds ds2 fds : List D} {nsB : List Str} {pl : Sem Bool} {Φ : DD}
/-- found = B(e, ..); found.keep(e', ..); return found -/
theorem dss_made {Cr : List D → List Str → List D → Prop} (i : Nat) (c : Cls X.K C) (M : Mk X.K C f) (hm : Meth X.K C m f2) (F : FnG X.prog X.w X.K X.mg X.base CX0 k f (spI X.K C Cr)) (F2 : FnG X.prog X.w X.K X.mg X.base CX0 k2 f2 (spKeep C nsB)) (g : Gx X (k + 1)) (g2 : Gx X k2) (hmg : X.mg b = some (.ref C))
    (ha : DA X (e :: es) δ ds δ1) (cr : Cr ds nsB fds) (ha2 : ∀ p, DA X (e' :: es') (δ1.set i (.dat (.at_ p))) ds2 (δ2 p)) (hi2 : ∀ p, (δ2 p)[i]? = some (.dat (.at_ p))) (hl : ds2.length = nsB.length) (q : ∀ δ', Φ.rt (.obj C nsB ds2) δ') (hli : i < δ1.length)
    (hnl : ∀ n ∈ nsB, (n == m) = false) (hN : X.N.Nodup := by first | assumption | decide) (hi : X.N[i]? = some x := by rfl) (hx : Loc X.env.scope x := by first | exact Or.inl rfl | exact Or.inr rfl)
    (hv : Vis X.env.scope x := by first | exact Or.inl rfl | exact Or.inr (Or.inl rfl) | exact Or.inr (Or.inr rfl)) (hyd : (x == ("__debug__" : Str)) = false := by decide) (hyc : (x == ("__classdict__" : Str)) = false := by decide)
    (hs : swapsWith (.Call (.Name b p1) (e :: es) [] pos1) (some (.Name x px)) pos2.line X.env = pure false := by rfl) (hf : X.fn x = true ∨ X.env.scope.names.lookup x = some .local := by first | exact .inl rfl | exact .inr rfl)
    (hg : Gl X b := by rfl) (hd : (b == ("__debug__" : Str)) = false := by decide)
    (hst : starEach (e :: es) X.env = (false, eval e X.env) :: starEach es X.env := by exact st_any rfl) (hpl : (backTo pos1 (starEach es X.env)).any (·.1) = false := by rfl)
    (hst' : starEach (e' :: es') X.env = (false, eval e' X.env) :: starEach es' X.env := by exact st_any rfl) (hpl' : (backTo pos4 (starEach es' X.env)).any (·.1) = false := by rfl)
    (ht : eval (.Call (.Attribute (.Name x p3) m apos) (e' :: es') [] pos4) X.env = (do
      let ov ← eval (.Name x p3) X.env
      standAt apos.atName
      let (f, first) ← holding [ov] (getMethod ov m pl)
      callWith pos4 f first (backTo pos4 (starEach (e' :: es') X.env)) (backToKw pos4 (keywordEach [] X.env))) := by rfl)
    (hs2 : swapsWith (.Call (.Attribute (.Name x p3) m apos) (e' :: es') [] pos4) none pos5.line X.env = pure false := by rfl) :
    DSs X [.Assign [.Name x px] (.Call (.Name b p1) (e :: es) [] pos1) pos2, .Expr (.Call (.Attribute (.Name x p3) m apos) (e' :: es') [] pos4) pos5, .Return (some (.Name x p6)) pos7] δ Φ := fun F0 R H σ E s k0 => by
  refine (pss_cons psW pssW).w ((ps_set hN hi hx peW hs hf).w ((pe_makeG M F g hmg hg hd hst hpl).w (ha F0 R H σ _ s fun vs R1 H1 t1 s1 ia y dx hy hdx hne => ?_)))
  have ry : R1 y = none := s1.rg.free hy
  have fy : F0 y = none := s1.fr.free hy
  have e1 : ∀ b o, H1 b = some o → upd (upd H1 dx (.own y)) y (.ins C dx []) b = some o := fun b o q => by
    rw [upd_ne (ne_of_none q hy), upd_ne (ne_of_none q hdx)]
    exact q
  refine ⟨R1, y, dx, vs, ds, nsB, fds, rfl, upd_same, ry, fun b o q => e1 b o (s1.rg b o q), ia, cr, fun R2 H2 fs t2 e2 r2 y2 h2 nm ib => ⟨rfl, ?_⟩⟩
  have keep : ∀ b o, H1 b = some o → H2 b = some o := fun b o q => e2 b o (ne_of_none q hy) (e1 b o q)
  have u2 : StOk X.K F0 R2 H2 σ δ1 := s1.after ⟨t2.ex, fun a h1 h2 => t2.nw a (by
    rcases hH : H1 a with _ | o
    · exact absurd hH h1
    · rw [e1 a o hH]
      exact fun z => by cases z) h2⟩ keep r2
  have no : ∀ (i : Nat) (es : List D), δ1[i]? ≠ some (.own y es) := fun i es z => by
    obtain ⟨_, _, _, xs, z4, _⟩ := s1.at_ i _ z
    rw [hy] at z4
    cases z4
  have no2 : ∀ (i : Nat) (hf : NestedKey → Int) (ks vs : List D), δ1[i]? ≠ some (.odc hf y ks vs) := fun i hf ks vs z => by
    obtain ⟨_, _, _, xs, z4, _⟩ := s1.at_ i _ z
    rw [hy] at z4
    cases z4
  have sB : StOk X.K (upd F0 y (.ins C dx fs)) R2 H2 (σ.set i (some (.ref y))) (δ1.set i (.dat (.at_ y))) := (u2.hold h2 no no2).setD (.at_ y)
  have mF : Same F0 (upd F0 y (.ins C dx fs)) := fun b o q => by rw [upd_ne (ne_of_none q fy)]; exact q
  refine (pss_cons psW pssW).w ((ps_expr peW hs2).w ((pe_methG c hm F2 g2 hst' hpl' ht).w ((pe_var hi hv hyd hyc).w ?_)))
  have hσ : (σ.set i (some (V.ref y)))[i]? = some (some (.ref y)) := List.getElem?_set_self (by rw [u2.ln]; exact hli)
  refine ⟨_, hσ, y, dx, fs, rfl, h2, lookup_none (by rw [nm]; exact hnl), ha2 y _ R2 H2 _ _ sB fun vs2 R3 H3 t3 s3 ia2 => ?_⟩
  have hl2 : vs2.length = nsB.length := by rw [ia2.len, hl]
  have ry3 : R3 y = none := t3.nw y (by rw [upd_same]; exact fun z => by cases z) y2
  refine ⟨y, dx, vs2, fs, rfl, hl2, s3.fr y _ upd_same, .inr nm, ?_⟩
  refine (pss_cons psW pssW).w ((ps_ret peW).w ((pe_var hi hv hyd hyc).w ⟨_, hσ, ?_⟩))
  have m3 : Same R3 (upd R3 y (.ins C dx (nsB.zip vs2))) := fun b o q => by rw [upd_ne (ne_of_none q ry3)]; exact q
  have t13 : Tr F0 R R3 := (t1.trans (t2.low fun b o q => e1 b o (s1.fr b o q))).trans (t3.low mF)
  refine k0.rt (upd R3 y (.ins C dx (nsB.zip vs2))) _ [] [] _ _ ⟨t13.ex.trans m3, fun a h1 h2 => ?_⟩ ⟨fun b o q => ?_, fun b o q => ?_, rfl, fun j z hz => (nomatch hz), fun _ _ _ _ _ hz => (nomatch hz), fun _ _ _ _ _ _ _ _ _ hz => (nomatch hz)⟩ (.obj upd_same (zip_fst hl2) (by rw [zip_snd hl2]; exact ia2.mono m3)) (q _)
  · have ha : a ≠ y := fun z => h1 (by rw [z]; exact fy)
    rw [upd_ne ha]
    exact t13.nw a h1 h2
  · have hb : b ≠ y := ne_of_none q fy
    rw [upd_ne hb]
    exact s3.fr b o (mF b o q)
  · by_cases hb : b = y
    · subst hb
      rw [upd_same] at q ⊢
      exact q
    · rw [upd_ne hb] at q ⊢
      exact s3.rg b o q
end
end Dy

/-! part Ly60 -/
set_option pp.maxSteps 400
namespace Dy
open PySem PySem.Spec PyProof.Rows L2
/-! errors without a field: raised by a def, caught by another -/
abbrev veMro : List Value := [.type "ValueError", .type "Exception", .type "BaseException", .type "object"]
/-- an error class of the program, below ValueError -/
structure ExcC (K : PySem.W.Frag) (mg : Str → Option Value) (x : Str) (CF : Addr) : Prop where
  gl : mg x = some (.ref CF)
  ex : PySem.W.excIn K CF veMro "ValueError.__new__" = true
  kp : PySem.W.keepIn K (.ref CF) = true
  sb : PySem.W.subIn K (.ref CF) (.type "BaseException") = some true
  ty : PySem.W.typeIn K (.ref CF) = some (.type "type")
  cl : PySem.W.isClsIn K CF = true
  ss : PySem.W.subIn K (.ref CF) (.ref CF) = some true
theorem ExcC.em {K : PySem.W.Frag} {mg : Str → Option Value} {x : Str} {S : Addr} (c : ExcC K mg x S) : PySem.W.exmOne K (.ref S) (.ref S) = some true := by
  have e1 : (PySem.W.subIn K (.ref S) (.type "BaseException") == some true) = true := by rw [c.sb] <;> rfl
  have e2 : ((PySem.W.clsIn K S).isSome && PySem.W.typeIn K (.ref S) == some (.type "type")) = true := by
    have h2' : (PySem.W.clsIn K S).isSome = true := c.cl
    rw [h2', c.ty] <;> rfl
  show (if (PySem.W.subIn K (.ref S) (.type "BaseException") == some true) = true then (if ((PySem.W.clsIn K S).isSome && PySem.W.typeIn K (.ref S) == some (.type "type")) = true then PySem.W.subIn K (.ref S) (.ref S) else none) else none) = some true
  rw [if_pos e1, if_pos e2]
  exact c.ss
/-- the contract of a def that raises the error -/
def spR (K : PySem.W.Frag) (CF : Addr) (C : List D → Prop) : Sp := fun vs H _ E => ∃ R ds, Same R H ∧ IsA K R vs ds ∧ C ds ∧ ∀ H2, Same H H2 → E (.ref CF) none H2
/-- statements that end in an error -/
def DSR (X : Cx) (F0 : Hp) (sts : List Stmt) (δ : List Sl) : Prop := ∀ (F R H : Hp) (σ : L2.St) (E : Ends), Same F0 F → StOk X.K F R H σ δ → wSs X sts E σ H
section
variable {X : Cx} {F0 : Hp} {st : Stmt} {sts xs ys : List Stmt} {δ δ1 : List Sl} {c : Expr} {pos pos' p p2 : Pos} {x m : Str} {j : Nat} {CF : Addr} {E0 : XK}
theorem dsr_cons (δ1 : List Sl) (h : DS X st δ { nx := fun δ' => δ' = δ1 }) (r : DSR X F0 sts δ1) : DSR X F0 (st :: sts) δ := fun F R H σ E hF s =>
  (pss_cons psW pssW).w (h F R H σ { E with nx := wSs X sts E } s ⟨fun R' H' σ' δ' t s' q => by
    have q' : δ' = δ1 := q
    subst q'
    exact r F R' H' σ' E hF s', fun _ _ _ _ _ _ _ _ _ z => False.elim z, fun _ _ _ _ _ _ _ _ _ _ _ _ _ _ z => False.elim z, fun _ _ _ _ _ _ z => False.elim z, fun _ _ _ _ _ _ z => False.elim z⟩)
theorem dsr_if (h : DT X c δ true δ1) (r : DSR X F0 xs δ1) : DSR X F0 (.If c xs ys pos :: sts) δ := fun F R H σ E hF s =>
  (pss_cons psW pssW).w ((ps_if ptW pssW pssW).w (h F R H σ _ s fun R1 H1 t1 s1 => by
    rw [if_pos rfl]
    exact r F R1 H1 σ _ hF s1))
theorem dsr_raise (hc : X.calm = true) (tk : Takes X (fun cls d _ H => E0 cls d H)) (hq : ∀ H2, Same F0 H2 → E0 (.ref CF) none H2) (e : ExcC X.K X.mg x CF) (hg : Gl X x := by rfl) (hd : (x == ("__debug__" : Str)) = false := by decide) :
    DSR X F0 (.Raise (some (.Call (.Name x p) [.Constant (.str m) j p2] [] pos)) none pos' :: sts) δ := fun F R H σ E hF s =>
  (pss_cons psW pssW).w ((ps_raise hc tk (pmk_own PySem.F.excBase_ValueError e.ex e.gl e.kp (raises_own e.sb e.ty) hg hd)).w (hq H (hF.trans s.fr)))
end
section
variable {P : Program} {w : World} {K : PySem.W.Frag} {mg : Str → Option Value} {base : Heap} {k : Nat} {f : Addr}
abbrev BXr (P : Program) (w : World) (K : PySem.W.Frag) (mg : Str → Option Value) (base : Heap) (N : List Str) (qual : Str) (st : Stmt) (f : Addr) (cdv : Value) (A : Around) (outer : List Env) (s : Shared) (H : Hp) (E : XK) : Cx :=
  cxOf (L2.CX P w) P w K mg base N qual (defScope st) f cdv A outer s H E
theorem fn_raise {x qual : Str} {st : Stmt} {fd : FuncData} {N ps : List Str} {CF : Addr} {C : List D → Prop} (F : Fun K x qual st f fd) (S : FnScope N ps (defScope st)) (hb : Binds K fd ps []) (hl : ∀ ds, C ds → ds.length = ps.length) (hN : ps.length ≤ N.length)
    (body : ∀ (cdv : Value) (A : Around) (outer : List Env) (s : Shared) (H : Hp) (E : XK) (ds : List D), Gx (BXr P w K mg base N qual st f cdv A outer s H E) k → Takes (BXr P w K mg base N qual st f cdv A outer s H E) (fun cls d _ H => E cls d H) → (∀ H2, Same H H2 → E (.ref CF) none H2) → C ds →
      DSR (BXr P w K mg base N qual st f cdv A outer s H E) H (defBody st) (dats ds N.length)) : FnG P w K mg base (L2.CX P w) (k + 1) f (spR K CF C) := by
  refine fng_plain F S hb (fun vs H Q E ⟨R, ds, _, ia, c, _⟩ => by rw [ia.len, hl ds c]) fun cdv A outer s H vs Q E g ⟨R, ds, hR, ia, c, q⟩ => ?_
  exact body cdv A outer s H E ds g (takes_of rfl rfl rfl rfl) q c H R H _ _ (Same.refl H) (start_ok hR ia (by rw [hl ds c]; exact hN))
end
section
variable {X : Cx} {k : Nat} {f C : Addr} {sp : Sp} {E : L2.St → XK} {o e : Expr} {es : List Expr} {pos apos : Pos} {m : Str} {pl : Sem Bool} {pins : List (Addr × Obj)} {σ : L2.St} {H : Hp} {s : Shared} {Q : VK} {us : List Value} {vs : List V}
theorem run_atX (F : FnG X.prog X.w X.K X.mg X.base (L2.CX X.prog X.w) k f sp) (g : Gx X k) (hx : PassesAt (L2.CX X.prog X.w) X σ (E σ)) (I : L2.Inv X pins σ H s) (r : Vals vs us) (h : sp vs H Q (E σ)) : wpAny (model X.prog X.w) X.A (call (.ref f) us) (EP X pins σ Q) X.xe s := by
  refine wpAny_call (codeAny_mono (F X.A X.stack s H us vs Q (E σ) g.rm g.gd I.env0 r h) fun r s' hq => ?_)
  match r, hq with
  | .error e, hq => exact hx pins H s e s' I hq
  | .ok (.ret u), hq => exact I.after hq
  | .ok .next, hq => exact False.elim hq
  | .ok .brk, hq => exact False.elim hq
  | .ok .cont, hq => exact False.elim hq
theorem pe_methX (c : Cls X.K C) (hm : Meth X.K C m f) (F : FnG X.prog X.w X.K X.mg X.base (L2.CX X.prog X.w) k f sp) (g : Gx X k) (hx : ∀ σ, PassesAt (L2.CX X.prog X.w) X σ (E σ))
    (hst : starEach (e :: es) X.env = (false, eval e X.env) :: starEach es X.env := by exact st_any rfl) (hpl : (backTo pos (starEach es X.env)).any (·.1) = false := by rfl)
    (ht : eval (.Call (.Attribute o m apos) (e :: es) [] pos) X.env = (do
      let ov ← eval o X.env
      standAt apos.atName
      let (f, first) ← holding [ov] (getMethod ov m pl)
      callWith pos f first (backTo pos (starEach (e :: es) X.env)) (backToKw pos (keywordEach [] X.env))) := by rfl) :
    PE X (.Call (.Attribute o m apos) (e :: es) [] pos) (fun σ H Q => wE X o σ H fun x H1 => ∃ a dx fs, x = .ref a ∧ H1 a = some (.ins C dx fs) ∧ fs.lookup m = none ∧ wA X (e :: es) σ H1 fun vs H2 => sp (x :: vs) H2 Q (E σ)) := by
  refine ⟨fun pins s σ H Q I h => ?_⟩
  refine PySem.W.methodCall_KW (pl := pl) (thn (h.run pins s I) fun u s1 ⟨x, H1, I1, rx, a, dx, fs, ex, ea, l, q⟩ => ?_) ht
  subst ex
  obtain rfl : u = Value.ref a := rx
  refine getmeth_ok I1 ea c hm l ?_
  refine PySem.W.callWith_K (first := [.ref a]) (h₀ := X.base) I.ok.mod.kin hm.kp (thn (q.run pos pins s1 I1) fun us s2 ⟨vs, H2, I2, r, q2⟩ => ⟨I2.kIn, ?_⟩) hst hpl
  exact run_atX (us := .ref a :: us) (vs := .ref a :: vs) F g (hx σ) I2 (.cons rfl r) q2
end
section
variable {X : Cx} {k : Nat} {f C CF : Addr} {o e : Expr} {es : List Expr} {body : List Stmt} {pos apos pos0 pos1 pos2 pos' np : Pos} {m x : Str} {pl : Sem Bool} {δ δ1 δ2 : List Sl} {ns : List Str} {ds gs : List D} {Φ : DD} {j : Nat} {b : Bool}
/-- try: body / except x: return True, where the body ends without an error -/
theorem ds_try_ok (ec : ExcC X.K X.mg x CF) (hs : X.stack = X.env :: X.outer) (hf : X.env.frame = some X.env.locals) (h : ∀ pn xe, DSs (X.tr pn xe) body δ Φ) (hg : Gl X x := by rfl) (hd : (x == ("__debug__" : Str)) = false := by decide) :
    DS X (.Try body [.ExceptHandler (some (.Name x np)) none [.Return (some (.Constant (.bool b) j pos0)) pos1] pos'] [] [] pos) δ Φ := fun F R H σ E s k0 =>
  (ps_try_only (c := .ref CF) (Wout := fun _ _ _ _ => False) (ts := fun _ _ _ D _ H => D.rt (.bl b) H) (tb := fun W D σ H => ∀ pn xe, wSs (X.tr pn xe) body D σ H) hs hf ⟨hg, hd, .inl ec.gl⟩ LamX.takes0
    (fun W pn xe tk _ => ⟨fun pins s σ H D I h => (h pn xe).run pins s I⟩) (fun a oe cls d pn _ _ => pss_one (ps_ret pe_bl))).w fun pn xe => h pn xe F R H σ E s ⟨k0.nx, k0.rt, k0.ro, k0.bk, k0.ct⟩
/-- try: o.m(e, ..) / except x: return b, where the call raises x -/
theorem ds_try_raised {Cc : List D → Prop} (ec : ExcC X.K X.mg x CF) (hs : X.stack = X.env :: X.outer) (hf : X.env.frame = some X.env.locals) (c : Cls X.K C) (hm : Meth X.K C m f) (F : FnG X.prog X.w X.K X.mg X.base (L2.CX X.prog X.w) k f (spR X.K CF Cc)) (g : Gx X k)
    (ho : ∀ pn xe, DE (X.tr pn xe) o δ (.obj C ns ds) δ1) (ha : ∀ pn xe, DA (X.tr pn xe) (e :: es) δ1 gs δ2) (cc : Cc (.obj C ns ds :: gs)) (q : Φ.rt (.bl b) δ2) (nl : ∀ n ∈ ns, (n == m) = false := by decide) (hg : Gl X x := by rfl) (hd : (x == ("__debug__" : Str)) = false := by decide)
    (hst : ∀ pn xe, starEach (e :: es) (X.tr pn xe).env = (false, eval e (X.tr pn xe).env) :: starEach es (X.tr pn xe).env := by intro _ _; exact st_any rfl) (hpl : ∀ pn xe, (backTo pos2 (starEach es (X.tr pn xe).env)).any (·.1) = false := by intro _ _; rfl)
    (ht : eval (.Call (.Attribute o m apos) (e :: es) [] pos2) X.env = (do
      let ov ← eval o X.env
      standAt apos.atName
      let (f, first) ← holding [ov] (getMethod ov m pl)
      callWith pos2 f first (backTo pos2 (starEach (e :: es) X.env)) (backToKw pos2 (keywordEach [] X.env))) := by rfl)
    (hs2 : swapsWith (.Call (.Attribute o m apos) (e :: es) [] pos2) none pos0.line X.env = pure false := by rfl) :
    DS X (.Try [.Expr (.Call (.Attribute o m apos) (e :: es) [] pos2) pos0] [.ExceptHandler (some (.Name x np)) none [.Return (some (.Constant (.bool b) j pos1)) pos'] pos''] [] [] pos) δ Φ := fun F0 R H σ E0 s k0 => by
  refine (ps_try_only (c := .ref CF) (Wout := fun _ _ _ _ => False) (ts := fun _ _ _ D _ H => D.rt (.bl b) H) (tb := fun W D σ H => ∀ pn xe, Takes (X.tr pn xe) W → wSs (X.tr pn xe) [.Expr (.Call (.Attribute o m apos) (e :: es) [] pos2) pos0] D σ H) hs hf ⟨hg, hd, .inl ec.gl⟩ LamX.takes0
    (fun W pn xe tk _ => ⟨fun pins s σ H D I h => (h pn xe tk).run pins s I⟩) (fun a oe cls d pn _ _ => pss_one (ps_ret pe_bl))).w fun pn xe tk => ?_
  refine (pss_cons psW pssW).w ((ps_expr (X := X.tr pn xe) peW hs2).w ((pe_methX (X := X.tr pn xe) (E := WE _) c hm F ⟨g.rm, g.gd⟩ (fun σ => passAt tk σ) (hst pn xe) (hpl pn xe) ht).w (ho pn xe F0 R H σ _ s fun v R1 H1 t1 s1 ix => ?_)))
  cases ix with
  | @obj a _ dx fs _ _ q1 e1 ia =>
    refine ⟨a, dx, fs, rfl, s1.rg _ _ q1, lookup_none (by rw [e1]; exact nl), ha pn xe F0 R1 H1 σ _ s1 fun vs R2 H2 t2 s2 iv => ⟨R2, _, s2.rg, .cons ((Is.obj q1 e1 ia).mono t2.ex) iv, cc, fun H3 m3 => ⟨true, ec.em, fun _ a _ => ?_, fun z => by cases z⟩⟩⟩
    exact k0.rt R2 H3 σ δ2 _ _ (t1.trans t2) (s2.after (Tr.refl _ _) m3 (s2.rg.trans m3)) (.bl b) q
end
end Dy

/-! part Ly61 -/
set_option pp.maxSteps 400
/-! two lists of objects, item by item equal by their own == -/
namespace Dz
open PySem PySem.SeqAt
open AutoSeq1 (wpAny_loadPart')
open MeetsSeq MeetsSeq2 MeetsSeq3 SeqRoads2
section
variable {prog : Program} {w : World} {A : Around} {R : Result → Shared → Prop}
/-- the walk through both lists for != -/
theorem neq_loop (p q : Addr) (N : Nat) (J : Nat → Shared → Prop) (hJ : GQ.ListI prog w A (fun e z => R (.error e) z) p q N J) (stop : ∀ z, J N z → R (.ok (.ret (.bool false))) z) (m : Nat) :
    ∀ j : Nat, N - j = m → j ≤ N → ∀ z, J j z → wpAny (model prog w) A.in1 (Builtin.«list.__eq__.loop» ⟨[.ref p, .ref q, rawInt j, rawInt 3], []⟩) (GQ.FinOf prog w A R) (fun e z => R (.error e) z) z := by
  induction m with
  | zero =>
    intro j hm hj z hz
    obtain ⟨as, bs, na, nb, ga, gb, za, zb, _⟩ := hJ _ _ hz
    have hjN : j = N := by omega
    have done : R (.ok (.ret (.bool false))) z := stop z (hjN ▸ hz)
    obtain ⟨hp, g, d, tk, os⟩ := z
    wp_walk using wpAny_loadPart' ga, wpAny_loadPart' gb
    have o1 : as[((j : Nat) : Int).toNat]? = none := by simp; omega
    have o2 : bs[((j : Nat) : Int).toNat]? = none := by simp; omega
    rw [o1, o2]
    wp_walk using wpAny_loadPart' ga, wpAny_loadPart' gb
    show R (.ok (.ret (.bool (as.size != bs.size)))) _
    rw [za, zb]
    simpa using done
  | succ m ih =>
    intro j hm hj z hz
    obtain ⟨as, bs, na, nb, ga, gb, za, zb, one⟩ := hJ _ _ hz
    have l1 : j < as.size := by omega
    have l2 : j < bs.size := by omega
    have step := one l1 l2
    obtain ⟨hp, g, d, tk, os⟩ := z
    wp_walk using wpAny_loadPart' ga, wpAny_loadPart' gb
    have o1 : as[((j : Nat) : Int).toNat]? = some as[j] := by simp [l1]
    have o2 : bs[((j : Nat) : Int).toNat]? = some bs[j] := by simp [l2]
    have nx : ((j : Int) + 1) = ((j + 1 : Nat) : Int) := by omega
    rw [o1, o2]
    refine wpAny_bind (wpAny_mono step (fun r z2 h2 => ?_) fun _ _ x => x)
    obtain ⟨hr, h2⟩ := h2
    subst hr
    have more := ih (j + 1) (by omega) (by omega) z2 h2
    obtain ⟨hp2, g2, d2, tk2, os2⟩ := z2
    wp_walk
    rw [nx]
    exact ⟨plainId_quiet plain_eq_loop _, codeAny_builtin entry_eq_loop (by
      rw [Around.under_plainId plain_eq_loop _]
      exact more)⟩
theorem neq_list (p q : Addr) (N : Nat) (J : Nat → Shared → Prop) (hJ : GQ.ListI prog w A (fun e z => R (.error e) z) p q N J) (stop : ∀ z, J N z → R (.ok (.ret (.bool false))) z) {z : Shared} (hz : J 0 z) :
    wpAny (model prog w) A.in1 (Builtin.«list.__ne__» ⟨[.ref p, .ref q], []⟩) (GQ.FinOf prog w A R) (fun e z => R (.error e) z) z := by
  obtain ⟨as, bs, na, nb, ga, gb, za, zb, _⟩ := hJ _ _ hz
  have more := neq_loop (A := A) (R := R) p q N J hJ stop _ 0 rfl (Nat.zero_le _) z hz
  obtain ⟨hp, g, d, tk, os⟩ := z
  have f3 := AutoSeq1.sub_list_list
  have eqs : ¬ (as.size != bs.size) = true := by simp [za, zb]
  wp_walk using wpAny_loadPart' ga, wpAny_loadPart' gb
  exact ⟨plainId_quiet plain_eq_loop _, codeAny_builtin entry_eq_loop (by
    rw [Around.under_plainId plain_eq_loop _]
    exact more)⟩
end
section
variable {prog : Program} {w : World} {A : Around} {E : Value → Shared → Prop} {s : Shared}
theorem neq_rich {p q : Addr} {N : Nat} {Q : Value → Shared → Prop} (hu : A.units < cLine) (J : Nat → Shared → Prop) (hJ : GQ.ListI prog w A E p q N J) (stop : ∀ z, J N z → Q (.bool false) z) (hz : J 0 s) : wpAny (model prog w) A (richCompare .NotEq (.ref p) (.ref q)) Q E s := by
  obtain ⟨as, bs, na, nb, ga, gb, _, _, _⟩ := hJ _ _ hz
  refine wpAny_richCompare_same_room (op := .NotEq) ⟨_, ga, rfl⟩ ⟨_, gb, rfl⟩ F.slot_list_ne (GQ.call_here F.slot_list_ne ⟨_, ga, rfl⟩ F.entry_list_ne (F.args_list_ne_2 _ _) ?_) hu
  exact neq_list (R := wants (fun v z => v ≠ .notImplemented ∧ Q v z) E) p q N J hJ (fun z h => ⟨(fun x => nomatch x), stop z h⟩) hz
end
end Dz
namespace Dy
open PySem PySem.Spec PyProof.Rows L2
section
variable {X : Cx} {k : Nat} {f C : Addr} {a b : Expr} {pos : Pos} {δ δ1 δ2 : List Sl} {ds es : List D} {Cc : List D → D → Prop}
/-- two data that the own == calls equal -/
def EqO (C : Addr) (Cc : List D → D → Prop) (d e : D) : Prop := ∃ ns ms fs gs, d = .obj C ns fs ∧ e = .obj C ms gs ∧ Cc [d, e] (.bl true)
theorem zip_at {α β : Type} {P : α → β → Prop} : ∀ {xs : List α} {ys : List β}, xs.length = ys.length → (∀ z ∈ xs.zip ys, P z.1 z.2) → ∀ (i : Nat) (x : α) (y : β), xs[i]? = some x → ys[i]? = some y → P x y
  | [], _, _, _, _, _, _, h, _ => by cases h
  | _ :: _, [], hl, _, _, _, _, _, _ => by cases hl
  | x :: xs, y :: ys, hl, h, 0, _, _, h1, h2 => by cases h1; cases h2; exact h (x, y) List.mem_cons_self
  | x :: xs, y :: ys, hl, h, i + 1, u, v, h1, h2 => zip_at (xs := xs) (ys := ys) (Nat.succ.inj hl) (fun z hz => h z (List.mem_cons_of_mem _ hz)) i u v h1 h2
theorem one_eq {R H : Hp} {pins : List (Addr × Obj)} {σ : L2.St} {s : Shared} {x y : V} {u v : Value} {d e : D} (h : Spc X.K C "__eq__" f) (F : FnG X.prog X.w X.K X.mg X.base CX0 k f (spP X.K Cc)) (g : Gx X (k + 1)) (q : EqO C Cc d e) (I : L2.Inv X pins σ H s) (e1 : Same R H) (ix : Is X.K R x d) (iy : Is X.K R y e) (rx : RelV x u) (ry : RelV y v) :
    wpAny (model X.prog X.w) X.A.in1 (eqBool u v) (fun r s' => r = true ∧ ∃ H', L2.Inv X pins σ H' s' ∧ Same H H') X.xe s := by
  obtain ⟨ns, ms, fs, gs, rfl, rfl, cc⟩ := q
  cases ix with
  | @obj a0 _ dx fv _ _ q1 n1 ia =>
  cases iy with
  | @obj b0 _ dy gv _ _ q2 n2 ib =>
  cases (show u = Value.ref a0 from rx)
  cases (show v = Value.ref b0 from ry)
  by_cases hab : a0 = b0
  · subst hab
    exact SeqAt.EqAt.same (A := X.A.in1) (s := s) (.ref a0) X.prog X.w X.xe _ ⟨rfl, H, I, Same.refl H⟩
  · refine GQ.eqBool_refG hab ?_
    obtain ⟨mA, O, _⟩ := ins_get I.hok (e1 _ _ q1)
    obtain ⟨od, J, _⟩ := O.look
    obtain ⟨mB, O2, _⟩ := ins_get I.hok (e1 _ _ q2)
    obtain ⟨od2, J2, _⟩ := O2.look
    obtain ⟨mm, hF⟩ := I.fr
    refine PySem.W.cmp_K (op := .Eq) (tb := .ref C) g.rm.in1.units0 hF I.ok.mod.kin J J2.type (by simp [PySem.W.notFirst]) h.at_ h.fn ?_
    refine wpAny_mono (run_in1 (Q := fun z H' => z = .bl true ∧ Same H H') F g I (.cons (rel_ref a0) (.cons (rel_ref b0) .nil)) ⟨R, _, _, e1, .cons (.obj q1 n1 ia) (.cons (.obj q2 n2 ib) .nil), cc, fun v R2 H2 t2 m2 r2 iv => ?_⟩) (fun r s' z => ?_) fun _ _ x => x
    · cases iv
      exact ⟨rfl, m2⟩
    · obtain ⟨z, H', I', rz, ez, mz⟩ := z
      subst ez
      cases rz
      exact ⟨true, rfl, rfl, H', I', mz⟩
theorem op_neLO (h : Spc X.K C "__eq__" f) (F : FnG X.prog X.w X.K X.mg X.base CX0 k f (spP X.K Cc)) (g : Gx X (k + 1)) :
    OpR X (compareOp .NotEq) (fun x y H Q => ∃ p q xs ys R, x = .ref p ∧ y = .ref q ∧ R p = some (.lst xs) ∧ R q = some (.lst ys) ∧ Same R H ∧ (∃ ds es, IsA X.K R xs ds ∧ IsA X.K R ys es ∧ ds.length = es.length ∧ ∀ z ∈ ds.zip es, EqO C Cc z.1 z.2) ∧ ∀ H', Same H H' → Q (.bl false) H') := by
  intro pins s σ H x y v u Q I rx ry ⟨p, q, xs, ys, R, e1, e2, hp, hq, rg, ⟨ds, es, ia, ib, hl, hz⟩, k0⟩
  subst e1 e2
  cases (show v = Value.ref p from rx)
  cases (show u = Value.ref q from ry)
  refine PySem.W.cmp_ofNotEq (Dz.neq_rich (N := ds.length) g.rm.units0 (fun _ s' => ∃ H', L2.Inv X pins σ H' s' ∧ Same H H') (fun i s' z => ?_) (fun s' z => ?_) ⟨H, I, Same.refl H⟩)
  · obtain ⟨H1, I1, m1⟩ := z
    obtain ⟨z1, its, k1, r1, g1⟩ := I1.hok p _ (m1 _ _ (rg _ _ hp))
    obtain ⟨z2, its2, k2, r2, g2⟩ := I1.hok q _ (m1 _ _ (rg _ _ hq))
    refine ⟨its.toArray, its2.toArray, k1, k2, g1, g2, by rw [List.size_toArray, ← r1.length, ia.len], by rw [List.size_toArray, ← r2.length, ib.len, ← hl], fun h1 h2 => ?_⟩
    have h1' : i < its.length := by simpa using h1
    have h2' : i < its2.length := by simpa using h2
    have j1 : i < ds.length := by rw [← ia.len, r1.length]; exact h1'
    have j2 : i < es.length := by rw [← ib.len, r2.length]; exact h2'
    obtain ⟨x1, hx1, ix1⟩ := ia.get (List.getElem?_eq_getElem j1)
    obtain ⟨y1, hy1, iy1⟩ := ib.get (List.getElem?_eq_getElem j2)
    obtain ⟨u1, hu1, ru1⟩ := r1.get hx1
    obtain ⟨v1, hv1, rv1⟩ := r2.get hy1
    have gu : its[i]? = some its.toArray[i] := by rw [List.getElem?_eq_getElem h1'] <;> simp
    have gv : its2[i]? = some its2.toArray[i] := by rw [List.getElem?_eq_getElem h2'] <;> simp
    rw [gu] at hu1
    rw [gv] at hv1
    rw [Option.some.inj hu1, Option.some.inj hv1]
    refine wpAny_mono (one_eq h F g (zip_at hl hz i _ _ (List.getElem?_eq_getElem j1) (List.getElem?_eq_getElem j2)) I1 (rg.trans m1) ix1 iy1 ru1 rv1) (fun r s2 z => ?_) fun _ _ x => x
    obtain ⟨hr, H2, I2, m2⟩ := z
    exact ⟨hr, H2, I2, m1.trans m2⟩
  · obtain ⟨H1, I1, m1⟩ := z
    exact ⟨.bl false, H1, I1, rfl, k0 H1 m1⟩
/-- [o, ..] != [o, ..], where all are equal -/
theorem dt_neLO (h : Spc X.K C "__eq__" f) (F : FnG X.prog X.w X.K X.mg X.base CX0 k f (spP X.K Cc)) (g : Gx X (k + 1)) (ha : DE X a δ (.lst ds) δ1) (hb : DE X b δ1 (.lst es) δ2) (hl : ds.length = es.length) (hz : ∀ z ∈ ds.zip es, EqO C Cc z.1 z.2) :
    DT X (.Compare a [.NotEq] [b] pos) δ false δ2 := fun F0 R H σ Q s k0 =>
  (pt_cmpR (op_neLO h F g) peW peW (nomark _)).w (ha F0 R H σ _ s fun x R1 H1 t1 s1 ix => hb F0 R1 H1 σ _ s1 fun y R2 H2 t2 s2 iy => by
    have ix2 := ix.mono t2.ex
    cases ix2 with
    | lst q1 i1 =>
    cases iy with
    | lst q2 i2 =>
    exact ⟨_, _, _, _, R2, rfl, rfl, q1, q2, s2.rg, ⟨ds, es, i1, i2, hl, hz⟩, fun H' m => ⟨false, rfl, k0 R2 H' (t1.trans t2) (s2.after (Tr.refl _ _) m (s2.rg.trans m))⟩⟩)
end
end Dy

/-! part Ly65 -/
set_option pp.maxSteps 600
namespace Dy
open PySem PySem.Spec PySem.Calls PyProof.Rows L2
/-! an error class over ValueError whose __init__ says super().__init__(text) and keeps one field -/
/-- what the written part says of such an __init__ -/
structure SupF (P : Program) (K : PySem.W.Frag) (C f cda cc : Addr) (fd : FuncData) : Prop where
  code : ∃ ccl cdd vs ccs file tf, K.lookup cda = some ⟨ccl, cdd, .fields vs, ccs⟩ ∧ vs[2]? = some (.str file tf) ∧ ((P.main.file : Str) == file) = true
  cell : ∃ cl cld csl, K.lookup cc = some ⟨cl, cld, .cell (some (.ref C)), csl⟩
  sub : PySem.W.mroIn K C (.ref C) = some true
  ini : PySem.W.ks_superIn K C C "__init__" = some (some (.builtin "ValueError.__init__"))
  ve : PySem.W.subIn K (.ref C) (.type "ValueError") = some true
  op : PySem.W.nsIn K PySem.cStatics "thirdparty.any" = some none
  top : (P.main.scope.names.lookup ("super" : Str)).isSome = false
section
variable {P : Program} {w : World} {K : PySem.W.Frag} {A : Around} {E : Value → Shared → Prop} {C f cda cc L a : Addr} {scope : Scope} {qual : Str} {body : List Stmt} {m : Str → Option Value} {mg mb : Str → Option Value}
  {hh : Heap} {g : Array GenState} {d : Drawn} {t : Nat} {os : OsState} {fd : FuncData} {oc : Value} {od : Option Addr} {osl : Array (Option Value)} {t0 : Addr} {ar : Arg} {p0 p1 p2 p3 p4 : Pos} {msg : Str} {j : Nat} {pl : Sem Bool}
theorem super_init (S : SupF P K C f cda cc fd) (T : OexC K C) (KX : K.In hh) (lk : K.lookup f = some ⟨oc, od, .func fd, osl⟩) (hp : (fd.params.posonlyargs ++ fd.params.args).head? = some ar)
    (hns : hh.Ns L m) (hv : m ar.arg = some (.ref a)) (hka : scope.names.lookup ar.arg = some .local) (hks : scope.names.lookup ("super" : Str) = some .globalImplicit) (hkc : scope.names.lookup ("__class__" : Str) = some .free) (hk : scope.kind = .function)
    (hg : hh.Ns mainGlobals mg) (hmg : mg "super" = none) (hb : hh.Ns builtinsNs mb) (hbt : mb "super" = some (.type "super")) (he : hh.get? a = some (PySem.W.excObj C t0 none .none)) {Q : Value → Shared → Prop}
    (ht : eval (.Call (.Attribute (.Call (.Name "super" p0) [] [] p1) "__init__" p2) [.Constant (.str msg) j p3] [] p4) (PySem.W.ksEnv qual scope L f (.ref cda) cc) = (do
      let ov ← attributeBase (.Call (.Name "super" p0) [] [] p1) "__init__" (PySem.W.ksEnv qual scope L f (.ref cda) cc) (eval (.Call (.Name "super" p0) [] [] p1) (PySem.W.ksEnv qual scope L f (.ref cda) cc))
      standAt p2.atName
      let (f', first) ← holding [ov] (getMethod ov "__init__" pl)
      callWith p4 f' first (backTo p4 (starEach [.Constant (.str msg) j p3] (PySem.W.ksEnv qual scope L f (.ref cda) cc))) []))
    (h : ∀ h' t1 tk, (∀ b o, b ≠ a → hh.get? b = some o → h'.get? b = some o) → h'.get? a = some (PySem.W.excObj C t1 none .none) → Q .none ⟨h', g, d, tk, os⟩) :
    _root_.PySem.wpAt (model P w) A (.func body (PySem.W.ksEnv qual scope L f (.ref cda) cc)) (eval (.Call (.Attribute (.Call (.Name "super" p0) [] [] p1) "__init__" p2) [.Constant (.str msg) j p3] [] p4) (PySem.W.ksEnv qual scope L f (.ref cda) cc)) Q E ⟨hh, g, d, t, os⟩ := by
  obtain ⟨nm, q, N, bs, bm, sn, sub, ab, col, dd, k0, k1, k2, k3, k5, hC, hbm⟩ := T.cls
  obtain ⟨ccl, cdd, vs, ccs, file, tf, hcode, hvs, hfile⟩ := S.code
  obtain ⟨cl, cld, csl, hcell⟩ := S.cell
  have hCh := KX _ _ hC
  have hCd : PySem.W.clsIn K C = some { name := nm, bases := bs, mro := .ref C :: bm, ns := N, qualname := q, hasDict := true, slotNames := sn, subclasses := sub, abstract := ab, collection := col, hasDel := false } := by unfold PySem.W.clsIn; rw [hC] <;> rfl
  have hne : a ≠ C := fun z => by
    rw [z] at he
    rw [hCh] at he
    cases he
  refine PySem.ks_wpAt_MethodCall (pl := pl) ?_ ht
  refine PySem.ks_wpAt_super_base (env := PySem.W.ksEnv qual scope L f (.ref cda) cc) hks hkc (by decide) rfl (KX _ _ lk) rfl hp rfl (KX _ _ hcode) rfl hvs hfile S.top ?_
  refine PySem.W.ks_loadName_global hk hks (loadGlobal_builtin (env := PySem.W.ksEnv qual scope L f (.ref cda) cc) hg hmg hb hbt ⟨rfl, ?_⟩)
  refine wpAny_loadName_free hk hkc rfl ⟨_, KX _ _ hcell, rfl⟩ ?_
  refine wpAny_loadName_local hk hka hns hv ?_
  refine ks_wpAny_isType_cls hCh rfl ⟨rfl, ?_⟩
  refine ks_wpAny_call_super hCh rfl he rfl (fun c e => by cases e) (PySem.W.looks_mroIn KX S.sub) (fun h1 e1 kp1 => ?_)
  have KX1 : K.In h1 := KX.keeps kp1
  have he1 := kp1 _ _ he
  have I1 : PySem.W.InstAt h1 a (PySem.W.excObj C t0 none .none) C none := ⟨he1, rfl, rfl, trivial⟩
  have hI : PySem.W.Looks (model P w) h1 (isInstance (.ref a) (.type "ValueError")) true := I1.type.andThen (PySem.W.looks_subIn KX1 S.ve)
  have hal : PySem.W.alongIn K "__init__" (((Value.ref C :: bm).dropWhile (· != .ref C)).drop 1) = some (some (.builtin "ValueError.__init__")) := by
    have z := S.ini
    unfold PySem.W.ks_superIn at z
    rw [hCd] at z
    exact z
  refine PySem.W.kxs_getMethod PySem.W.kxs_ValueError e1 (PySem.W.looks_opaque KX1 S.op) (l₀ := Value.ref C :: bm) ?_ rfl KX1 hal hI hne (by decide) ?_
  · exact fun A Q E s k q => wpAny_bind ((PySem.W.looks_clsIn KX1 hCd) A _ E s k (wpAny_pure q))
  have hu : (h1.push (PySem.W.kxs_mw "ValueError.__init__" a)).get? h1.objs.size = some (PySem.W.kxs_mw "ValueError.__init__" a) := Heap.get?_push_at rfl rfl
  have he2 : (h1.push (PySem.W.kxs_mw "ValueError.__init__" a)).get? a = some (PySem.W.excObj C t0 none .none) := Heap.get?_push_of_some _ he1
  have hC2 : (h1.push (PySem.W.kxs_mw "ValueError.__init__" a)).get? C = some (PySem.excClassObj nm q C N bs bm true sn sub ab col dd k0 k1 k2 k3 k5 "ValueError.__new__") := Heap.get?_push_of_some _ (kp1 _ _ hCh)
  have FB := PySem.F.excBase_ValueError
  refine PySem.W.kxs_callWith (i := "ValueError.__init__") (x := a) (by rfl) ?_
  show wpAny _ _ (evalArgs (.ref h1.objs.size) true ((false, eval (.Constant (.str msg) j p3) _) :: []) []) _ _ _
  refine evalArgs_plain (Calls.spliced_cons (wpAny_Constant_str (Calls.spliced_nil ⟨hu, ?_⟩)))
  refine wpAny_call (codeAny_of_tree ?_)
  show wpAny _ (Around.in1 _) (callAny (.ref h1.objs.size) ⟨[.str msg (t + 1)], []⟩) _ _ _
  simp only [callAny]
  refine wpAny_bind (wpAny_load hu ?_)
  simp only [PySem.W.kxs_mw, show (Value.type "method-wrapper" == Value.type "method" || Value.type "method-wrapper" == Value.type "builtin_function_or_method" || Value.type "method-wrapper" == Value.type "method-wrapper") = true by decide, if_true]
  refine PySem.W.KFB.if_so (by decide) ?_
  refine wpAny_bind (PySem.W.check_bound_init FB.toExcCallFacts hC2 he2 rfl ?_)
  refine wpAny_bind (wpAny_pure (wpAny_pure ?_))
  refine ⟨plainId_quiet FB.init.plain _, codeAny_builtin FB.initEntry ?_⟩
  exact PySem.W.exc_init_tree (cls := .ref C) (t0 := t0) (dv := none) (c2 := .none) (c3 := .none) (b4 := .bool false) he2 (by rw [sizeLine_eq]; exact (by decide : (1 : Nat) ≤ 16777216)) fun h' k' e' _ => h h' _ _ (fun b o hb ho => k' b o hb (Heap.get?_push_of_some _ (kp1 b o ho))) e'
end
section
variable {P : Program} {w : World} {K : PySem.W.Frag} {mg : Str → Option Value} {base : Heap} {CX : CXT} {k : Nat} {C f cda cc : Addr} {name qual : Str} {params : Arguments} {body : List Stmt} {scope : Scope} {dV kV doc pm ct oc : Value} {an od : Option Addr} {osl : Array (Option Value)}
  {x fl : Str} {ar : Arg} {p0 p1 p2 p3 p4 p5 p6 p7 p8 p9 : Pos} {msg : Str} {j : Nat} {pl : Sem Bool}
/-- what such an __init__ does: the field is kept -/
def spOex (C : Addr) (fl : Str) : Sp := fun vs H Q _ => ∃ a y, vs = [.ref a, y] ∧ H a = some (exo a C none) ∧ ∀ d, H d = none → d ≠ a → Q .non (upd (upd H d (exd d [(fl, y)])) a (exo a C (some d)))
theorem fn_super (S : SupF P K C f cda cc (PySem.W.ksFn name qual params body scope dV kV doc pm an (.ref cda) ct cc)) (T : OexC K C) (lk : K.lookup f = some ⟨oc, od, .func (PySem.W.ksFn name qual params body scope dV kV doc pm an (.ref cda) ct cc), osl⟩)
    (hcd : PySem.W.codeIn K (.ref cda) qual = true) (hmg : mg "super" = none) (hno : PySem.W.findIn K (.ref C) fl = some none)
    (hbody : body = [.Expr (.Call (.Attribute (.Call (.Name "super" p0) [] [] p1) "__init__" p2) [.Constant (.str msg) j p3] [] p4) p5, .Assign [.Attribute (.Name "self" p6) fl p7] (.Name x p8) p9])
    (hp : (params.posonlyargs ++ params.args).head? = some ar) (har : ar.arg = "self") (hxs : x ≠ "self") (hka : scope.names.lookup ("self" : Str) = some .local) (hkx : scope.names.lookup x = some .local) (hks : scope.names.lookup ("super" : Str) = some .globalImplicit)
    (hkc : scope.names.lookup ("__class__" : Str) = some .free) (hcl : ∀ y ∈ scope.names, y.2 ≠ .cell) (hco : scope.isCoroutine = false) (hgen : scope.isGenerator = false) (hk : scope.kind = .function) (hxd : (x == ("__debug__" : Str)) = false)
    (ht : ∀ L, eval (.Call (.Attribute (.Call (.Name "super" p0) [] [] p1) "__init__" p2) [.Constant (.str msg) j p3] [] p4) (PySem.W.ksEnv qual scope L f (.ref cda) cc) = (do
      let ov ← attributeBase (.Call (.Name "super" p0) [] [] p1) "__init__" (PySem.W.ksEnv qual scope L f (.ref cda) cc) (eval (.Call (.Name "super" p0) [] [] p1) (PySem.W.ksEnv qual scope L f (.ref cda) cc))
      standAt p2.atName
      let (f', first) ← holding [ov] (getMethod ov "__init__" pl)
      callWith p4 f' first (backTo p4 (starEach [.Constant (.str msg) j p3] (PySem.W.ksEnv qual scope L f (.ref cda) cc))) []))
    (hs1 : ∀ L, swapsWith (.Call (.Attribute (.Call (.Name "super" p0) [] [] p1) "__init__" p2) [.Constant (.str msg) j p3] [] p4) none p5.line (PySem.W.ksEnv qual scope L f (.ref cda) cc) = pure false)
    (hs2 : ∀ L, swapsWith (.Name x p8) (some (.Attribute (.Name "self" p6) fl p7)) p9.line (PySem.W.ksEnv qual scope L f (.ref cda) cc) = pure false) :
    FnOk P w K mg base CX (k + 1) f (PySem.W.ksFn name qual params body scope dV kV doc pm an (.ref cda) ct cc) ["self", x] (spOex C fl) := by
  refine ⟨fun vs H Q E ⟨a, y, e, _⟩ => by rw [e]; rfl, fun A outer s H args us vs Q E hr e0 hb r hsp => ?_⟩
  obtain ⟨a, y, e, hHa, q⟩ := hsp
  subst e
  cases r with
  | @cons _ u0 _ ur ra rr =>
  cases rr with
  | @cons _ u _ ur2 ry rn =>
  cases rn
  obtain rfl : u0 = Value.ref a := ra
  have hkp : ∀ b o, base.get? b = some o → s.heap.get? b = some o := fun b o z => (e0.bs b o z).1
  have KX : K.In s.heap := e0.mod.kin.keeps hkp
  obtain ⟨hp0, g, dr, tk, os⟩ := s
  obtain ⟨mb, hmb, hmbt⟩ := e0.mod.blt
  obtain ⟨t0, he0⟩ := exo_at e0.hok hHa
  refine ks_codeAny_call_defAt (fd := PySem.W.ksFn name qual params body scope dV kV doc pm an (.ref cda) ct cc) (body := body) (binds := [("self", Value.ref a), (x, u)]) hr.depth (KX _ _ lk) rfl (e0.mod.nolimit.keeps hkp) (PySem.W.codeRec_of KX hcd) rfl hb hcl
    (fun z hz => ?_) (fun h1 hns k1 => ?_) hco hgen hk
  · rcases List.mem_cons.mp hz with rfl | hz
    · exact hka
    · rcases List.mem_cons.mp hz with rfl | hz
      · exact hkx
      · cases hz
  subst hbody
  obtain ⟨nm, qq, N, bs, bm, sn, sub, ab, col, dd, k0, k1', k2, k3, k5, hC, hbm⟩ := T.cls
  have hcl' : PySem.W.clsIn K C = some { name := nm, bases := bs, mro := .ref C :: bm, ns := N, qualname := qq, hasDict := true, slotNames := sn, subclasses := sub, abstract := ab, collection := col, hasDel := false } := by unfold PySem.W.clsIn; rw [hC] <;> rfl
  have hLa : hp0.objs.size ≠ a := fun z => by
    have y := Heap.lt_size he0
    rw [z] at y
    exact Nat.lt_irrefl _ y
  have hv1 : (fun y => ([("self", Value.ref a), (x, u)] : List (Str × Value)).reverse.lookup y) ("self" : Str) = some (.ref a) := by
    show ([(x, u), ("self", Value.ref a)] : List (Str × Value)).lookup ("self" : Str) = some (.ref a)
    rw [List.lookup_cons, show (("self" : Str) == x) = false from by simpa using fun z => hxs z.symm]
    rw [List.lookup_cons_self]
  have hv2 : (fun y => ([("self", Value.ref a), (x, u)] : List (Str × Value)).reverse.lookup y) x = some u := by
    show ([(x, u), ("self", Value.ref a)] : List (Str × Value)).lookup x = some u
    rw [List.lookup_cons_self]
  show _root_.PySem.wpAt (model P w) (A.deeper (PySem.W.ksEnv qual scope hp0.objs.size f (.ref cda) cc)) (.func _ (PySem.W.ksEnv qual scope hp0.objs.size f (.ref cda) cc)) (execs _ (PySem.W.ksEnv qual scope hp0.objs.size f (.ref cda) cc)) _ _ ⟨h1, g, dr, tk + 2, os⟩
  refine ks_wpAt_execs_cons ?_
  refine ks_wpAt_Expr_any ?_ (by show (scope.kind == .module && _) = false; rw [hk]; rfl) (hs1 _)
  refine super_init (mb := mb) (mg := mg) (t0 := t0) (a := a) S T (KX.keeps k1) lk hp hns (by rw [har]; exact hv1) (by rw [har]; exact hka) hks hkc hk ?_ hmg ?_ ?_ (k1 _ _ he0) (ht _) fun h2 t1 tk2 kk2 he2 => ?_
  · obtain ⟨o, es, ep, e1, e2⟩ := e0.mod.glob
    exact ⟨o, es, ep, k1 _ _ (hkp _ _ e1), e2⟩
  · obtain ⟨o, es, ep, e1, e2⟩ := hmb
    exact ⟨o, es, ep, k1 _ _ (hkp _ _ e1), e2⟩
  · rw [hmbt "super" (by decide)]
    kernel_rfl
  have hns2 : h2.Ns hp0.objs.size (fun y => ([("self", Value.ref a), (x, u)] : List (Str × Value)).reverse.lookup y) := by
    obtain ⟨o, es, ep, e1, e2⟩ := hns
    exact ⟨o, es, ep, kk2 _ _ hLa e1, e2⟩
  have KX2 : K.In h2 := fun b o z => kk2 b o (fun w => by
    have y := (e0.bs b o (e0.mod.kin _ _ z)).2
    rw [w, hHa] at y
    cases y) (k1 _ _ (KX _ _ z))
  show _root_.PySem.wpAt _ _ _ (execs _ (PySem.W.ksEnv qual scope hp0.objs.size f (.ref cda) cc)) _ _ ⟨h2, g, dr, tk2, os⟩
  refine ks_wpAt_execs_cons (ks_wpAt_Assign_Attr (wpAt_of_wpAny (wpAny_Name (wpAny_loadName_local hk hkx hns2 hv2 ?_) hxd)) (hs2 _))
  refine wpAny_Name (wpAny_loadName_local hk hka hns2 hv1 ?_) (by decide)
  refine PySem.W.set_plain KX2 (ox := PySem.W.excObj C t1 none .none) (od := none) ⟨he2, rfl, rfl, trivial⟩ T.sa ?_
  refine PySem.HandSPX.exc_osa KX2 he2 hcl' (show PySem.HandSPX.refsVE (.ref C :: bm) = true from hbm) rfl hno (fun h3 tk3 dx k3' dn dne hx3 hn3 => ?_)
  have hLs : hp0.objs.size ≤ dx := by
    obtain ⟨o, es, ep, e1, e2⟩ := hns2
    exact Nat.le_trans (Nat.le_of_lt (Heap.lt_size e1)) dn
  have hnd : H dx = none := e0.hok.fresh hLs
  have keep : ∀ b o, b ≠ a → hp0.get? b = some o → h3.get? b = some o := fun b o hb z => k3' b o hb (kk2 b o hb (k1 b o z))
  have nd : ∀ {b : Addr} {o : Obj}, hp0.get? b = some o → b ≠ dx := fun {b o} z => Nat.ne_of_lt (Nat.lt_of_lt_of_le (Heap.lt_size z) hLs)
  have na : ∀ {b : Addr}, H b = none → b ≠ a := fun {b} n z => by
    rw [z, hHa] at n
    cases n
  have Un1 : Un (frs outer) [] H (upd (upd H dx (exd dx [(fl, y)])) a (exo a C (some dx))) hp0 h3 := {
    keep := fun b o z n _ _ => keep b o (na n) z
    slot := fun b o z n _ _ => ⟨o.slots, keep b o (na n) z⟩
    free := fun b o z n _ => by rw [upd_ne (na n), upd_ne (nd z)]; exact n
    there := fun b o z _ => by
      by_cases hb : b = a
      · exact ⟨_, by rw [hb]; exact hx3⟩
      · exact ⟨o, keep b o hb z⟩
    tups := fun b xs z => by rw [upd_ne (at_ne hHa z exo_tup), upd_ne (ne_of_none z hnd)]; exact z
    frzs := fun b o v z => by rw [upd_ne (at_ne hHa z exo_frz), upd_ne (ne_of_none z hnd)]; exact z
    tbls := fun b ps z => ⟨#[], by rw [upd_ne (at_ne hHa z exo_tbl), upd_ne (ne_of_none z hnd), z]; simp⟩ }
  show _root_.PySem.wpAt _ _ _ (execs [] _) _ _ _
  refine wpAt_of_wpAny ?_
  rw [execs_nil]
  refine wpAny_pure ?_
  show CE outer P w H _ Q .none _
  refine ⟨.non, _, rfl, e0.bare, Un1, fun b o z => ?_, rfl, q dx hnd dne⟩
  by_cases hb : b = a
  · subst hb
    rw [upd_same] at z
    cases z
    exact exo_ok hx3
  · rw [upd_ne hb] at z
    by_cases hd : b = dx
    · subst hd
      rw [upd_same] at z
      cases z
      exact exd_ok hn3 (relO_put (fs := []) ry fun g => True.intro)
    · rw [upd_ne hd] at z
      exact (e0.hok b o z).stay (fun c v hc zz => keep c v (by
          rcases hc with hc | hc
          · rw [hc]
            exact hb
          · exact at_ne hHa hc exo_own) zz)
        (fun c hc => by rw [upd_ne (at_ne hHa hc exo_own), upd_ne (ne_of_none hc hnd)]; exact hc) (fun c xs hc => by rw [upd_ne (at_ne hHa hc exo_tup), upd_ne (ne_of_none hc hnd)]; exact hc)
end
end Dy

/-! part Ly66 -/
set_option pp.maxSteps 400
namespace Dy
open PySem PySem.Spec PyProof.Rows L2
/-! errors with one field: raised by one def, caught `as e` by another -/
structure ExcF (P : Program) (w : World) (K : PySem.W.Frag) (mg : Str → Option Value) (base : Heap) (x : Str) (CF : Addr) (fl : Str) : Prop where
  gl : mg x = some (.ref CF)
  oex : OexC K CF
  ini : ∃ fI fd pr, PySem.W.findIn K (.ref CF) "__init__" = some (some (.ref fI)) ∧ PySem.W.typeIn K (.ref fI) = some (.type "function") ∧ FnOk P w K mg base CX0 1 fI fd ["self", pr] (spOex CF fl) ∧ Binds K fd ["self", pr] []
  xf : XfC K CF
  no : PySem.W.findIn K (.ref CF) fl = some none
  em : PySem.W.exmOne K (.ref CF) (.ref CF) = some true
/-- the contract of a def that raises the error with d in its field -/
def spRF (K : PySem.W.Frag) (CF : Addr) (fl : Str) (C : List D → D → Prop) : Sp := fun vs H _ E => ∃ R ds d, Same R H ∧ IsA K R vs ds ∧ C ds d ∧ ∀ R2 H2 dd v, Tr H R R2 → Same H H2 → Same R2 H2 → Is K R2 v d → H2 dd = some (.xd [(fl, v)]) → E (.ref CF) (some dd) H2
/-- statements that end in an error -/
def DSX (X : Cx) (F0 R0 : Hp) (sts : List Stmt) (δ : List Sl) : Prop := ∀ (R H : Hp) (σ : L2.St) (E : Ends), Tr F0 R0 R → StOk X.K F0 R H σ δ → wSs X sts E σ H
section
variable {X : Cx} {F0 R0 : Hp} {st : Stmt} {sts xs ys : List Stmt} {δ δ1 : List Sl} {c e : Expr} {pos pos' p : Pos} {x fl : Str} {CF : Addr} {E0 : XK} {d : D}
theorem dsx_cons (δ1 : List Sl) (h : DS X st δ { nx := fun δ' => δ' = δ1 }) (r : DSX X F0 R0 sts δ1) : DSX X F0 R0 (st :: sts) δ := fun R H σ E hF s =>
  (pss_cons psW pssW).w (h F0 R H σ { E with nx := wSs X sts E } s ⟨fun R' H' σ' δ' t s' q => by
    have q' : δ' = δ1 := q
    subst q'
    exact r R' H' σ' E (hF.trans t) s', fun _ _ _ _ _ _ _ _ _ z => False.elim z, fun _ _ _ _ _ _ _ _ _ _ _ _ _ _ z => False.elim z, fun _ _ _ _ _ _ z => False.elim z, fun _ _ _ _ _ _ z => False.elim z⟩)
theorem dsx_if (h : DT X c δ true δ1) (r : DSX X F0 R0 xs δ1) : DSX X F0 R0 (.If c xs ys pos :: sts) δ := fun R H σ E hF s =>
  (pss_cons psW pssW).w ((ps_if ptW pssW pssW).w (h F0 R H σ _ s fun R1 H1 t1 s1 => by
    rw [if_pos rfl]
    exact r R1 H1 σ _ (hF.trans t1) s1))
theorem dsx_raise (hc : X.calm = true) (tk : Takes X (fun cls d _ H => E0 cls d H)) (ec : ExcF X.prog X.w X.K X.mg X.base x CF fl) (hr : Room 2 X.A) (he : DE X e δ d δ1)
    (hq : ∀ R2 H2 dd v, Tr F0 R0 R2 → Same F0 H2 → Same R2 H2 → Is X.K R2 v d → H2 dd = some (.xd [(fl, v)]) → E0 (.ref CF) (some dd) H2) (hg : Gl X x := by rfl) (hd : (x == ("__debug__" : Str)) = false := by decide)
    (hst : starEach [e] X.env = (false, eval e X.env) :: starEach [] X.env := by exact st_any rfl) :
    DSX X F0 R0 (.Raise (some (.Call (.Name x p) [e] [] pos)) none pos' :: sts) δ := fun R H σ E hF s => by
  obtain ⟨fI, fd, pr, iC, tI, F1, hb⟩ := ec.ini
  refine (pss_cons psW pssW).w ((ps_raise hc tk (pmk_oex (dvs := []) (ds := []) ec.oex iC tI F1 hr hb .nil (fun _ _ _ _ _ _ _ h => h.elim) hg ec.gl paW hd hst rfl)).w ?_)
  refine (da_one he hst) F0 R H σ _ s fun vs R1 H1 t1 s1 ia => ?_
  cases ia with
  | cons iv i2 =>
    cases i2
    rename_i v
    refine ⟨show (1 : Nat) ≤ 1000 by decide, fun a ha => ⟨a, v, rfl, upd_same, fun d1 hd1 hne => ⟨rfl, d1, [(fl, v)], upd_same, by rw [upd_ne hne, upd_same], by rw [upd_ne hne] at hd1; exact hd1, ?_⟩⟩⟩
    rw [upd_ne hne] at hd1
    have e1 : upd (L2.del (upd (upd (upd H1 a (exo a CF none)) d1 (exd d1 [(fl, v)])) a (exo a CF (some d1))) a) d1 (.xd [(fl, v)]) = upd H1 d1 (.xd [(fl, v)]) := by
      funext b
      by_cases h1 : b = d1
      · rw [h1, upd_same, upd_same]
      · rw [upd_ne h1, upd_ne h1]
        by_cases h2 : b = a
        · rw [h2, del_same, ha]
        · rw [del_ne h2, upd_ne h2, upd_ne h1, upd_ne h2]
    rw [e1]
    have m : Same H1 (upd H1 d1 (.xd [(fl, v)])) := fun b o z => by rw [upd_ne (ne_of_none z hd1)]; exact z
    exact hq R1 _ d1 v (hF.trans t1) (s1.fr.trans m) (s1.rg.trans m) iv upd_same
end
section
variable {P : Program} {w : World} {K : PySem.W.Frag} {mg : Str → Option Value} {base : Heap} {k : Nat} {f : Addr}
theorem fn_raiseF {x qual fl : Str} {st : Stmt} {fd : FuncData} {N ps : List Str} {CF : Addr} {C : List D → D → Prop} (F : Fun K x qual st f fd) (S : FnScope N ps (defScope st)) (hb : Binds K fd ps []) (hl : ∀ ds d, C ds d → ds.length = ps.length) (hN : ps.length ≤ N.length)
    (body : ∀ (cdv : Value) (A : Around) (outer : List Env) (s : Shared) (H R : Hp) (E : XK) (ds : List D) (d : D), Gx (BXr P w K mg base N qual st f cdv A outer s H E) k → Takes (BXr P w K mg base N qual st f cdv A outer s H E) (fun cls d _ H => E cls d H) →
      (∀ R2 H2 dd v, Tr H R R2 → Same H H2 → Same R2 H2 → Is K R2 v d → H2 dd = some (.xd [(fl, v)]) → E (.ref CF) (some dd) H2) → C ds d → DSX (BXr P w K mg base N qual st f cdv A outer s H E) H R (defBody st) (dats ds N.length)) : FnG P w K mg base (L2.CX P w) (k + 1) f (spRF K CF fl C) := by
  refine fng_plain F S hb (fun vs H Q E ⟨R, ds, d, _, ia, c, _⟩ => by rw [ia.len, hl ds d c]) fun cdv A outer s H vs Q E g ⟨R, ds, d, hR, ia, c, q⟩ => ?_
  exact body cdv A outer s H R E ds d g (takes_of rfl rfl rfl rfl) q c R H _ _ (Tr.refl H R) (start_ok hR ia (by rw [hl ds d c]; exact hN))
end
section
variable {X : Cx} {k : Nat} {f C : Addr} {sp : Sp} {E : L2.St → XK} {e : Expr} {es : List Expr} {pos p : Pos} {x : Str}
theorem pe_makeX (M : Mk X.K C f) (F : FnG X.prog X.w X.K X.mg X.base (L2.CX X.prog X.w) k f sp) (g : Gx X (k + 1)) (hx : ∀ σ, PassesAt (L2.CX X.prog X.w) X σ (E σ)) (hm : X.mg x = some (.ref C)) (hg : Gl X x := by rfl) (hd : (x == ("__debug__" : Str)) = false := by decide)
    (hst : starEach (e :: es) X.env = (false, eval e X.env) :: starEach es X.env := by exact st_any rfl) (hpl : (backTo pos (starEach es X.env)).any (·.1) = false := by rfl) :
    PE X (.Call (.Name x p) (e :: es) [] pos) (fun σ H Q => wA X (e :: es) σ H fun vs H1 => ∀ y dx, H1 y = none → H1 dx = none → dx ≠ y → sp (V.ref y :: vs) (upd (upd H1 dx (.own y)) y (.ins C dx [])) (fun v H2 => v = .non ∧ Q (V.ref y) H2) (E σ)) := by
  refine ⟨fun pins s σ H Q I h => ?_⟩
  refine wpAny_Call_Name_kw (ld_glob I hg hm ?_ hd)
  refine PySem.W.callWith_K (h₀ := X.base) I.ok.mod.kin M.kp (thn (h.run pos pins s I) fun us s1 ⟨vs, H1, I1, r, q⟩ => ⟨I1.kIn, ?_⟩) hst hpl
  have hq := q (s1.heap.objs.size + 1) s1.heap.objs.size (I1.hok.fresh (Nat.le_succ _)) (I1.hok.fresh (Nat.le_refl _)) (Nat.ne_of_lt (Nat.lt_succ_self _))
  have I2 := Inv.made (C := C) I1
  have r2 : Vals (V.ref (s1.heap.objs.size + 1) :: vs) (Value.ref (s1.heap.objs.size + 1) :: us) := .cons rfl r
  refine wpAny_call (make_map (f := f) I1.kIn M.makes M.init (beq_iff_eq.mp M.fn) (codeAny_mono (F _ X.stack _ _ (Value.ref (s1.heap.objs.size + 1) :: us) _ _ _ (g.rm.make C us []) g.gd (I2.env0.make C us []) r2 hq) fun r s' hz => ?_))
  match r, hz with
  | .error e, hz => exact hx σ _ _ _ e s' I2 hz
  | .ok .next, hz => exact False.elim hz
  | .ok .brk, hz => exact False.elim hz
  | .ok .cont, hz => exact False.elim hz
  | .ok (.ret u), hz =>
    obtain ⟨v, H', I3, rv, ev, q3⟩ := I2.after hz
    subst ev
    exact ⟨rv, V.ref (s1.heap.objs.size + 1), H', I3, rfl, q3⟩
end
end Dy

/-! part Ly67 -/
set_option pp.maxSteps 400
namespace Dy
open PySem PySem.Spec PyProof.Rows L2
/-! try: .. / except x as n: .. -/
section
variable {X : Cx} {k i iy : Nat} {f C CF : Addr} {e : Expr} {es : List Expr} {body rest suite : List Stmt} {b₀ : Stmt} {pos pos2 pos3 pos' np pn1 pn2 pn3 pg py : Pos} {x n y gn fl : Str} {δ δ1 : List Sl} {ds : List D} {d : D} {Φ : DD}
/-- the suite ends without an error -/
theorem ds_tryAs_ok (hs : X.stack = X.env :: X.outer) (hf : X.env.frame = some X.env.locals) (hc : X.mg x = some (.ref CF)) (h : ∀ pn xe, DSs (X.tr pn xe) body δ Φ) (hN : X.N.Nodup := by first | assumption | decide) (hi : X.N[i]? = some n := by rfl) (hln : X.env.kindOf n = some .local := by rfl)
    (hg : Gl X x := by rfl) (hd : (x == ("__debug__" : Str)) = false := by decide) : DS X (.Try body [.ExceptHandler (some (.Name x np)) (some n) (b₀ :: suite) pos'] [] [] pos) δ Φ := fun F R H σ E s k0 =>
  (ps_try_as (i := i) (c := .ref CF) (Wout := fun _ _ _ _ => False) (ts := fun _ _ _ _ _ _ => False) (tb := fun W D σ H => ∀ pn xe, wSs (X.tr pn xe) body D σ H) hs hf hN hi hln ⟨hg, hd, .inl hc⟩ LamX.takes0
    (fun W pn xe tk _ => ⟨fun pins s σ H D I h => (h pn xe).run pins s I⟩) (fun a oe cls d pn _ _ => ⟨fun _ _ _ _ _ _ h => h.elim⟩)).w fun pn xe => h pn xe F R H σ E s k0
/-- its first statement y = G(e, ..) raises, and the field is returned -/
theorem ds_tryAs_raised {Cc : List D → D → Prop} (ec : ExcF X.prog X.w X.K X.mg X.base x CF fl) (hs : X.stack = X.env :: X.outer) (hf : X.env.frame = some X.env.locals) (M : Mk X.K C f) (F : FnG X.prog X.w X.K X.mg X.base (L2.CX X.prog X.w) k f (spRF X.K CF fl Cc)) (g : Gx X (k + 1))
    (hm : X.mg gn = some (.ref C)) (ha : ∀ pn xe, DA (X.tr pn xe) (e :: es) δ ds δ1) (cc : ∀ p, Cc (.at_ p :: ds) d) (q : Φ.rt d δ1) (hil : i < δ1.length) (hiy : X.N[iy]? = some y := by rfl) (hN : X.N.Nodup := by first | assumption | decide) (hi : X.N[i]? = some n := by rfl) (hln : X.env.kindOf n = some .local := by rfl)
    (hly : Loc X.env.scope y := by first | exact Or.inl rfl | exact Or.inr rfl) (hfy : X.fn y = true ∨ X.env.scope.names.lookup y = some .local := by first | exact .inl rfl | exact .inr rfl)
    (hg : Gl X x := by rfl) (hd : (x == ("__debug__" : Str)) = false := by decide) (hgg : Gl X gn := by rfl) (hgd : (gn == ("__debug__" : Str)) = false := by decide)
    (hv : Vis X.env.scope n := by first | exact Or.inl rfl | exact Or.inr (Or.inl rfl) | exact Or.inr (Or.inr rfl)) (hnd : (n == ("__debug__" : Str)) = false := by decide) (hnc : (n == ("__classdict__" : Str)) = false := by decide)
    (hst : ∀ pn xe, starEach (e :: es) (X.tr pn xe).env = (false, eval e (X.tr pn xe).env) :: starEach es (X.tr pn xe).env := by intro _ _; exact st_any rfl) (hpl : ∀ pn xe, (backTo pos2 (starEach es (X.tr pn xe).env)).any (·.1) = false := by intro _ _; rfl)
    (hs2 : swapsWith (.Call (.Name gn pg) (e :: es) [] pos2) (some (.Name y py)) pos3.line X.env = pure false := by rfl) :
    DS X (.Try (.Assign [.Name y py] (.Call (.Name gn pg) (e :: es) [] pos2) pos3 :: rest) [.ExceptHandler (some (.Name x np)) (some n) [.Return (some (.Attribute (.Name n pn1) fl pn2)) pn3] pos'] [] [] pos) δ Φ := fun F0 R H σ E0 s k0 => by
  refine (ps_try_as (i := i) (c := .ref CF) (Wout := fun _ _ _ _ => False) (ts := fun a cls d D σ H => tXf a cls d CF fl (tVar i) σ H D.rt)
    (tb := fun W D σ H => ∀ pn xe, Takes (X.tr pn xe) W → wSs (X.tr pn xe) (.Assign [.Name y py] (.Call (.Name gn pg) (e :: es) [] pos2) pos3 :: rest) D σ H) hs hf hN hi hln ⟨hg, hd, .inl ec.gl⟩ LamX.takes0
    (fun W pn xe tk _ => ⟨fun pins s σ H D I h => (h pn xe tk).run pins s I⟩) (fun a oe cls d pn hz hvs => pss_one (ps_ret (pe_xf ec.xf ec.no hz hvs (pe_var hi hv hnd hnc))))).w fun pn xe tk => ?_
  refine (pss_cons psW pssW).w ((ps_set (X := X.tr pn xe) (i := iy) hN hiy hly peW hs2 hfy).w ((pe_makeX (X := X.tr pn xe) (E := WE _) M F ⟨g.rm, g.gd⟩ (fun σ => passAt tk σ) hm hgg hgd (hst pn xe) (hpl pn xe)).w (ha pn xe F0 R H σ _ s fun vs R1 H1 t1 s1 ia => ?_)))
  intro z dx hz hdx hne
  have ry : R1 z = none := s1.rg.free hz
  have e1 : ∀ b o, H1 b = some o → upd (upd H1 dx (.own z)) z (.ins C dx []) b = some o := fun b o q => by
    rw [upd_ne (ne_of_none q hz), upd_ne (ne_of_none q hdx)]
    exact q
  refine ⟨R1, .at_ z :: ds, d, fun b o q => e1 b o (s1.rg b o q), .cons (.at_ z) ia, cc z, fun R2 H2 dd v t2 e2 r2 iv hx => ⟨true, ec.em, fun _ a ha' => ?_, fun z => by cases z⟩⟩
  have keep : ∀ b o, H1 b = some o → H2 b = some o := fun b o q => e2 b o (e1 b o q)
  have t3 : Tr H1 R1 R2 := t2.low e1
  refine ⟨.ref a, List.getElem?_set_self (by rw [s1.ln]; exact hil), rfl, rfl, dd, [(fl, v)], v, rfl, hx, by rw [List.lookup_cons_self], ?_⟩
  exact k0.rt R2 H2 σ δ1 v d (t1.trans (t3.low fun b o q => s1.fr b o q)) (s1.after t3 keep r2) iv q
end
end Dy

/-! part Gm1 -/
namespace Gr
open PySem
/-! networks in plain Lean: a shortest cycle through a place -/
structure Ed where
  b : Nat
  e : Nat
  w : Str
abbrev ed (es : List Ed) (i : Nat) : Ed := es.getD i ⟨0, 0, Str.empty⟩
abbrev Wt := List (Nat × List Nat)
/-- the nodes that stand in `seen` -/
abbrev seenL (w : Wt) : List Nat := (w.drop 1).map (·.1)
def inner (es : List Ed) (place here : Nat) (way : List Nat) : List Nat → Wt → Sum (List Nat) Wt
  | [], w => .inr w
  | i :: al, w => if (ed es i).b = here ∧ (ed es i).e = place then .inl (way ++ [i]) else if (ed es i).b = here ∧ (ed es i).e ∉ seenL w then inner es place here way al (w ++ [((ed es i).e, way ++ [i])]) else inner es place here way al w
def bfs (es : List Ed) (al : List Nat) (place : Nat) : Nat → Nat → Wt → Option (List Nat)
  | 0, _, _ => none
  | k + 1, spot, w => if spot < w.length then match inner es place (w.getD spot (0, [])).1 (w.getD spot (0, [])).2 al w with
    | .inl c => some c
    | .inr w' => bfs es al place k (spot + 1) w' else none
def thr (es : List Ed) (al : List Nat) (place : Nat) : Option (List Nat) := bfs es al place 30 0 [(place, [])]
/-- a way of edges from a to b -/
def Path (es : List Ed) : Nat → List Nat → Nat → Prop
  | a, [], b => a = b
  | a, i :: c, b => (ed es i).b = a ∧ Path es (ed es i).e c b
theorem Path.snoc {es : List Ed} {i : Nat} : ∀ {a : Nat} {c : List Nat} {b : Nat}, Path es a c b → (ed es i).b = b → Path es a (c ++ [i]) (ed es i).e
  | a, [], b, h, e => by
    have h' : a = b := h
    exact ⟨by rw [e, h'], rfl⟩
  | a, j :: c, b, h, e => ⟨h.1, Path.snoc h.2 e⟩
/-- what holds of an entry of the waiting list -/
structure EnOk (es : List Ed) (al : List Nat) (place : Nat) (S : List Nat) (x : Nat × List Nat) : Prop where
  pa : Path es place x.2 x.1
  al : ∀ i ∈ x.2, i ∈ al
  nd : (x.2.map (fun i => (ed es i).b) ++ [x.1]).Nodup
  mem : ∀ v ∈ x.2.map (fun i => (ed es i).b) ++ [x.1], v = place ∨ v ∈ S
theorem EnOk.mono {es : List Ed} {al : List Nat} {place : Nat} {S T : List Nat} {x : Nat × List Nat} (h : EnOk es al place S x) (st : ∀ v ∈ S, v ∈ T) : EnOk es al place T x :=
  ⟨h.pa, h.al, h.nd, fun v hv => (h.mem v hv).imp id (st v)⟩
structure WOk (es : List Ed) (al : List Nat) (place : Nat) (w : Wt) : Prop where
  hd : w.head?.map (·.1) = some place
  en : ∀ x ∈ w, EnOk es al place (seenL w) x
  nd : (seenL w).Nodup
  np : place ∉ seenL w
  sn : ∀ v ∈ seenL w, ∃ i ∈ al, (ed es i).e = v
/-- a cycle through a place, along the allowed edges -/
structure CycAt (es : List Ed) (al : List Nat) (place : Nat) (c : List Nat) : Prop where
  ne : c ≠ []
  pa : Path es place c place
  al : ∀ i ∈ c, i ∈ al
  nd : (c.map fun i => (ed es i).b).Nodup
theorem seen_app {w : Wt} {x : Nat × List Nat} (h : w ≠ []) : seenL (w ++ [x]) = seenL w ++ [x.1] := by
  cases w with
  | nil => exact absurd rfl h
  | cons a w => simp [seenL]
theorem WOk.ne {es : List Ed} {al : List Nat} {place : Nat} {w : Wt} (h : WOk es al place w) : w ≠ [] := fun z => by
  have := h.hd
  rw [z] at this
  cases this
theorem EnOk.next {es : List Ed} {al : List Nat} {place here i : Nat} {way S : List Nat} (h : EnOk es al place S (here, way)) (hi : i ∈ al) (hb : (ed es i).b = here) (ht : (ed es i).e ≠ place) (hs : (ed es i).e ∉ S) :
    EnOk es al place (S ++ [(ed es i).e]) ((ed es i).e, way ++ [i]) := by
  have e1 : (way ++ [i]).map (fun i => (ed es i).b) = way.map (fun i => (ed es i).b) ++ [here] := by
    rw [List.map_append, List.map_cons, List.map_nil, hb]
  refine ⟨h.pa.snoc hb, fun j hj => ?_, ?_, fun v hv => ?_⟩
  · rcases List.mem_append.mp hj with z | z
    · exact h.al j z
    · rw [List.mem_singleton.mp z]
      exact hi
  · show ((way ++ [i]).map (fun i => (ed es i).b) ++ [(ed es i).e]).Nodup
    rw [e1]
    refine List.nodup_append.mpr ⟨h.nd, by simp, fun a ha b hb' => ?_⟩
    rw [List.mem_singleton.mp hb']
    rintro rfl
    rcases h.mem _ ha with z | z
    · exact ht z
    · exact hs z
  · have hv' : v ∈ (way ++ [i]).map (fun i => (ed es i).b) ++ [(ed es i).e] := hv
    rw [e1] at hv'
    rcases List.mem_append.mp hv' with z | z
    · exact (h.mem v z).imp id fun y => List.mem_append_left _ y
    · exact .inr (List.mem_append_right _ z)
/-- an inner round -/
theorem inner_ok {es : List Ed} {al0 : List Nat} {place here : Nat} {way : List Nat} : ∀ {al : List Nat} {w : Wt}, (∀ i ∈ al, i ∈ al0) → WOk es al0 place w → EnOk es al0 place (seenL w) (here, way) →
    match inner es place here way al w with
    | .inl c => CycAt es al0 place c
    | .inr w' => WOk es al0 place w' ∧ (∃ m, w' = w ++ m) ∧ ∀ i ∈ al, (ed es i).b = here → (ed es i).e ≠ place ∧ (ed es i).e ∈ seenL w'
  | [], w, _, hw, _ => ⟨hw, ⟨[], by simp⟩, fun i hi => by simp at hi⟩
  | i :: al, w, ha, hw, he => by
    unfold inner
    by_cases h1 : (ed es i).b = here ∧ (ed es i).e = place
    · rw [if_pos h1]
      refine ⟨by simp, ?_, fun j hj => ?_, ?_⟩
      · have z := he.pa.snoc (i := i) h1.1
        rw [h1.2] at z
        exact z
      · rcases List.mem_append.mp hj with z | z
        · exact he.al j z
        · rw [List.mem_singleton.mp z]
          exact ha i (List.mem_cons_self ..)
      · rw [List.map_append, List.map_cons, List.map_nil, h1.1]
        exact he.nd
    · rw [if_neg h1]
      by_cases h2 : (ed es i).b = here ∧ (ed es i).e ∉ seenL w
      · rw [if_pos h2]
        have hp : (ed es i).e ≠ place := fun z => h1 ⟨h2.1, z⟩
        have e1 : seenL (w ++ [((ed es i).e, way ++ [i])]) = seenL w ++ [(ed es i).e] := seen_app hw.ne
        have hw2 : WOk es al0 place (w ++ [((ed es i).e, way ++ [i])]) := by
          refine ⟨?_, fun x hx => ?_, ?_, ?_, ?_⟩
          · have z := hw.hd
            cases w with
            | nil => cases z
            | cons a w => exact z
          · rw [e1]
            rcases List.mem_append.mp hx with z | z
            · exact (hw.en x z).mono fun v hv => List.mem_append_left _ hv
            · rw [List.mem_singleton.mp z]
              exact he.next (ha i (List.mem_cons_self ..)) h2.1 hp h2.2
          · rw [e1]
            refine List.nodup_append.mpr ⟨hw.nd, by simp, fun a ha' b hb' => ?_⟩
            rw [List.mem_singleton.mp hb']
            rintro rfl
            exact h2.2 ha'
          · rw [e1]
            intro z
            rcases List.mem_append.mp z with y | y
            · exact hw.np y
            · exact hp (List.mem_singleton.mp y).symm
          · rw [e1]
            intro v hv
            rcases List.mem_append.mp hv with y | y
            · exact hw.sn v y
            · exact ⟨i, ha i (List.mem_cons_self ..), (List.mem_singleton.mp y).symm⟩
        have ih := inner_ok (al := al) (fun j hj => ha j (List.mem_cons_of_mem _ hj)) hw2 (by rw [e1]; exact he.mono fun v hv => List.mem_append_left _ hv)
        split at ih
        · rename_i c hc
          exact ih
        · rename_i w' hc
          obtain ⟨i1, ⟨m, i2⟩, i3⟩ := ih
          refine ⟨i1, ⟨((ed es i).e, way ++ [i]) :: m, by rw [i2]; simp⟩, fun j hj hb => ?_⟩
          rcases List.mem_cons.mp hj with rfl | hj
          · refine ⟨hp, ?_⟩
            rw [i2]
            have : seenL (w ++ [((ed es j).e, way ++ [j])] ++ m) = seenL (w ++ [((ed es j).e, way ++ [j])]) ++ m.map (·.1) := by
              have hne := hw.ne
              cases w with
              | nil => exact absurd rfl hne
              | cons a w => simp [seenL]
            rw [this, e1]
            simp
          · exact i3 j hj hb
      · rw [if_neg h2]
        have ih := inner_ok (al := al) (fun j hj => ha j (List.mem_cons_of_mem _ hj)) hw he
        split at ih
        · rename_i c hc
          exact ih
        · rename_i w' hc
          obtain ⟨i1, ⟨m, i2⟩, i3⟩ := ih
          refine ⟨i1, ⟨m, i2⟩, fun j hj hb => ?_⟩
          rcases List.mem_cons.mp hj with rfl | hj
          · refine ⟨fun z => h1 ⟨hb, z⟩, ?_⟩
            have hin : (ed es j).e ∈ seenL w := Decidable.byContradiction fun z => h2 ⟨hb, z⟩
            rw [i2]
            have : seenL (w ++ m) = seenL w ++ m.map (·.1) := by
              have hne := hw.ne
              cases w with
              | nil => exact absurd rfl hne
              | cons a w => simp [seenL]
            rw [this]
            exact List.mem_append_left _ hin
          · exact i3 j hj hb
end Gr

/-! part Gm2 -/
namespace Gr
open PySem
theorem nodup_lt : ∀ {n : Nat} {l : List Nat}, l.Nodup → (∀ x ∈ l, x < n) → l.length ≤ n
  | 0, [], _, _ => Nat.le_refl _
  | 0, x :: l, _, h => absurd (h x (List.mem_cons_self ..)) (Nat.not_lt_zero _)
  | n + 1, l, hd, h => by
    have h1 : (l.erase n).length ≤ n := nodup_lt (hd.erase n) fun x hx => by
      have h2 := (List.Nodup.mem_erase_iff hd).mp hx
      have := h x h2.2
      have := h2.1
      omega
    have h3 := @List.length_erase _ _ _ n l
    split at h3 <;> omega
theorem seen_len {w : Wt} : w.length ≤ (seenL w).length + 1 := by
  cases w <;> simp [seenL]
theorem WOk.len {es : List Ed} {al : List Nat} {place n : Nat} {w : Wt} (h : WOk es al place w) (hb : ∀ i ∈ al, (ed es i).e < n) : w.length ≤ n + 1 := by
  have h1 : (seenL w).length ≤ n := nodup_lt h.nd fun x hx => by
    obtain ⟨i, hi, e⟩ := h.sn x hx
    rw [← e]
    exact hb i hi
  have := @seen_len w
  omega
/-- the entry w[j] was gone through -/
def Done (es : List Ed) (al : List Nat) (place : Nat) (w : Wt) (v : Nat) : Prop := ∀ i ∈ al, (ed es i).b = v → (ed es i).e ≠ place ∧ (ed es i).e ∈ seenL w
theorem no_path {es : List Ed} {al : List Nat} {place : Nat} {w : Wt} (hw : WOk es al place w) (hd : ∀ v ∈ w.map (·.1), Done es al place w v) : ∀ {c : List Nat} {a : Nat}, c ≠ [] → a ∈ w.map (·.1) → Path es a c place → (∀ i ∈ c, i ∈ al) → False
  | [], _, h, _, _, _ => h rfl
  | i :: c, a, _, ha, hp, hal => by
    obtain ⟨h1, h2⟩ := hp
    obtain ⟨h3, h4⟩ := hd a ha i (hal i (List.mem_cons_self ..)) h1
    have h5 : (ed es i).e ∈ w.map (·.1) := by
      obtain ⟨x, hx, e⟩ := List.mem_map.mp h4
      exact List.mem_map.mpr ⟨x, List.mem_of_mem_drop hx, e⟩
    cases c with
    | nil => exact h3 h2
    | cons j c => exact no_path hw hd (by simp) h5 h2 fun k hk => hal k (List.mem_cons_of_mem _ hk)
theorem bfs_ok {es : List Ed} {al : List Nat} {place n : Nat} (hb : ∀ i ∈ al, (ed es i).e < n) : ∀ {k spot : Nat} {w : Wt}, WOk es al place w → n + 2 ≤ k + spot → (∀ j, j < spot → j < w.length → Done es al place w (w.getD j (0, [])).1) →
    match bfs es al place k spot w with
    | some c => CycAt es al place c
    | none => ∃ w', WOk es al place w' ∧ ∀ v ∈ w'.map (·.1), Done es al place w' v
  | 0, spot, w, hw, hk, hd => by
    refine ⟨w, hw, fun v hv => ?_⟩
    obtain ⟨x, hx, e⟩ := List.mem_map.mp hv
    obtain ⟨j, hj, ej⟩ := List.mem_iff_getElem.mp hx
    have hl := hw.len hb
    have := hd j (by omega) hj
    rw [List.getD_eq_getElem?_getD, List.getElem?_eq_getElem hj, Option.getD_some, ej, e] at this
    exact this
  | k + 1, spot, w, hw, hk, hd => by
    unfold bfs
    by_cases hs : spot < w.length
    · rw [if_pos hs]
      have hx : w.getD spot (0, []) ∈ w := by
        rw [List.getD_eq_getElem?_getD, List.getElem?_eq_getElem hs, Option.getD_some]
        exact List.getElem_mem hs
      have h1 := inner_ok (here := (w.getD spot (0, [])).1) (way := (w.getD spot (0, [])).2) (al := al) (fun i hi => hi) hw (hw.en _ hx)
      cases hin : inner es place (w.getD spot (0, [])).1 (w.getD spot (0, [])).2 al w with
      | inl c =>
        rw [hin] at h1
        exact h1
      | inr w' =>
        rw [hin] at h1
        obtain ⟨i1, ⟨m, i2⟩, i3⟩ := h1
        have hsub : ∀ v ∈ seenL w, v ∈ seenL w' := fun v hv => by
          rw [i2]
          have hne := hw.ne
          cases w with
          | nil => exact absurd rfl hne
          | cons a w =>
            have hv' : v ∈ w.map (·.1) := hv
            show v ∈ (w ++ m).map (·.1)
            rw [List.map_append]
            exact List.mem_append_left _ hv'
        refine bfs_ok (k := k) (spot := spot + 1) hb i1 (by omega) fun j hj hl => ?_
        have eget : ∀ j, j < w.length → w'.getD j (0, []) = w.getD j (0, []) := fun j hj => by
          rw [i2, List.getD_eq_getElem?_getD, List.getD_eq_getElem?_getD, List.getElem?_append_left hj]
        by_cases he : j = spot
        · subst he
          intro i hi hbi
          rw [eget j hs] at hbi
          exact i3 i hi hbi
        · have hjw : j < w.length := by omega
          intro i hi hbi
          rw [eget j hjw] at hbi
          obtain ⟨a1, a2⟩ := hd j (by omega) hjw i hi hbi
          exact ⟨a1, hsub _ a2⟩
    · rw [if_neg hs]
      refine ⟨w, hw, fun v hv => ?_⟩
      obtain ⟨x, hx, e⟩ := List.mem_map.mp hv
      obtain ⟨j, hj, ej⟩ := List.mem_iff_getElem.mp hx
      have := hd j (by omega) hj
      rw [List.getD_eq_getElem?_getD, List.getElem?_eq_getElem hj, Option.getD_some, ej, e] at this
      exact this
theorem start_w {es : List Ed} {al : List Nat} {place : Nat} : WOk es al place [(place, [])] :=
  ⟨rfl, fun x hx => by
    rw [List.mem_singleton.mp hx]
    exact ⟨rfl, fun i hi => by simp at hi, by simp, fun v hv => .inl (by simpa using hv)⟩, by simp [seenL], by simp [seenL], fun v hv => by simp [seenL] at hv⟩
theorem thr_some {es : List Ed} {al : List Nat} {place n : Nat} {c : List Nat} (hb : ∀ i ∈ al, (ed es i).e < n) (hn : n ≤ 28) (h : thr es al place = some c) : CycAt es al place c := by
  have z := bfs_ok (k := 30) (spot := 0) hb (start_w (es := es) (al := al) (place := place)) (by omega) fun j hj => absurd hj (Nat.not_lt_zero _)
  unfold thr at h
  rw [h] at z
  exact z
theorem thr_none {es : List Ed} {al : List Nat} {place n : Nat} (hb : ∀ i ∈ al, (ed es i).e < n) (hn : n ≤ 28) (h : thr es al place = none) {c : List Nat} (hc : c ≠ []) (hp : Path es place c place) (hal : ∀ i ∈ c, i ∈ al) : False := by
  have z := bfs_ok (k := 30) (spot := 0) hb (start_w (es := es) (al := al) (place := place)) (by omega) fun j hj => absurd hj (Nat.not_lt_zero _)
  unfold thr at h
  rw [h] at z
  obtain ⟨w, hw, hd⟩ := z
  refine no_path hw hd hc ?_ hp hal
  have h2 := hw.hd
  cases w with
  | nil => cases h2
  | cons a w =>
    have e : a.1 = place := Option.some.inj h2
    rw [List.map_cons, e]
    exact List.mem_cons_self ..
/-! the first stuck cycle -/
abbrev rnd : Str := "round"
abbrev dp (ds : List Nat) (i : Nat) : Nat := ds.getD i 0
def alw (ds : List Nat) (es : List Ed) (t i : Nat) : Bool := decide (t ≤ min (dp ds (ed es i).b) (dp ds (ed es i).e)) && !(decide ((ed es i).w = rnd) && decide (dp ds (ed es i).b = t))
def allowedL (ds : List Nat) (es : List Ed) (t : Nat) : List Nat := (List.range es.length).filter (alw ds es t)
def placesL (ds : List Nat) (t : Nat) : List Nat := (List.range ds.length).filter fun p => decide (dp ds p = t)
def firstL {α : Type} (g : α → Option (List Nat)) : List α → Option (List Nat)
  | [] => none
  | a :: l => match g a with
    | some c => some c
    | none => firstL g l
def stuckC (ds : List Nat) (es : List Ed) : Option (List Nat) := firstL (fun t => firstL (thr es (allowedL ds es t)) (placesL ds t)) [1, 2, 3]
theorem firstL_some {α : Type} {g : α → Option (List Nat)} {c : List Nat} : ∀ {l : List α}, firstL g l = some c → ∃ a ∈ l, g a = some c
  | [], h => by cases h
  | a :: l, h => by
    unfold firstL at h
    cases hg : g a with
    | some d =>
      rw [hg] at h
      exact ⟨a, List.mem_cons_self .., by rw [hg]; exact h⟩
    | none =>
      rw [hg] at h
      obtain ⟨b, hb, e⟩ := firstL_some h
      exact ⟨b, List.mem_cons_of_mem _ hb, e⟩
theorem firstL_none {α : Type} {g : α → Option (List Nat)} : ∀ {l : List α}, firstL g l = none → ∀ a ∈ l, g a = none
  | [], _, a, ha => by simp at ha
  | b :: l, h, a, ha => by
    unfold firstL at h
    cases hg : g b with
    | some d =>
      rw [hg] at h
      cases h
    | none =>
      rw [hg] at h
      rcases List.mem_cons.mp ha with rfl | ha
      · exact hg
      · exact firstL_none h a ha
/-- depths and edges that fit together -/
structure NetOk (ds : List Nat) (es : List Ed) : Prop where
  n1 : 1 ≤ ds.length
  n2 : ds.length ≤ 24
  m : es.length ≤ 60
  d : ∀ d ∈ ds, 1 ≤ d ∧ d ≤ 3
  b : ∀ x ∈ es, x.b < ds.length
  e : ∀ x ∈ es, x.e < ds.length
theorem NetOk.edB {ds : List Nat} {es : List Ed} (h : NetOk ds es) {i : Nat} (hi : i < es.length) : (ed es i).b < ds.length := h.b _ (by
  show es.getD i _ ∈ es
  rw [List.getD_eq_getElem?_getD, List.getElem?_eq_getElem hi, Option.getD_some]
  exact List.getElem_mem hi)
theorem NetOk.edE {ds : List Nat} {es : List Ed} (h : NetOk ds es) {i : Nat} (hi : i < es.length) : (ed es i).e < ds.length := h.e _ (by
  show es.getD i _ ∈ es
  rw [List.getD_eq_getElem?_getD, List.getElem?_eq_getElem hi, Option.getD_some]
  exact List.getElem_mem hi)
theorem mem_allowed {ds : List Nat} {es : List Ed} {t i : Nat} : i ∈ allowedL ds es t ↔ i < es.length ∧ t ≤ dp ds (ed es i).b ∧ t ≤ dp ds (ed es i).e ∧ ¬((ed es i).w = rnd ∧ dp ds (ed es i).b = t) := by
  unfold allowedL
  rw [List.mem_filter, List.mem_range]
  unfold alw
  simp only [Bool.and_eq_true, decide_eq_true_eq, Bool.not_eq_true', Bool.and_eq_false_iff, decide_eq_false_iff_not, Nat.le_min]
  constructor
  · rintro ⟨h1, ⟨h2, h3⟩, h4⟩
    exact ⟨h1, h2, h3, fun z => h4.elim (fun y => y z.1) fun y => y z.2⟩
  · rintro ⟨h1, h2, h3, h4⟩
    refine ⟨h1, ⟨h2, h3⟩, ?_⟩
    by_cases hw : (ed es i).w = rnd
    · exact .inr fun z => h4 ⟨hw, z⟩
    · exact .inl hw
theorem mem_places {ds : List Nat} {t p : Nat} : p ∈ placesL ds t ↔ p < ds.length ∧ dp ds p = t := by
  unfold placesL
  rw [List.mem_filter, List.mem_range, decide_eq_true_eq]
theorem stuckC_some {ds : List Nat} {es : List Ed} {c : List Nat} (h : NetOk ds es) (hc : stuckC ds es = some c) : ∃ t p, p < ds.length ∧ dp ds p = t ∧ CycAt es (allowedL ds es t) p c := by
  obtain ⟨t, _, h1⟩ := firstL_some hc
  obtain ⟨p, hp, h2⟩ := firstL_some h1
  obtain ⟨h3, h4⟩ := mem_places.mp hp
  exact ⟨t, p, h3, h4, thr_some (n := ds.length) (fun i hi => h.edE (mem_allowed.mp hi).1) (by have := h.n2; omega) h2⟩
theorem dp_rng {ds : List Nat} {es : List Ed} (h : NetOk ds es) {p : Nat} (hp : p < ds.length) : dp ds p ∈ [1, 2, 3] := by
  have h1 : dp ds p ∈ ds := by
    show ds.getD p 0 ∈ ds
    rw [List.getD_eq_getElem?_getD, List.getElem?_eq_getElem hp, Option.getD_some]
    exact List.getElem_mem hp
  obtain ⟨h2, h3⟩ := h.d _ h1
  have : dp ds p = 1 ∨ dp ds p = 2 ∨ dp ds p = 3 := by omega
  rcases this with z | z | z <;> rw [z] <;> simp
theorem stuckC_none {ds : List Nat} {es : List Ed} (h : NetOk ds es) (hc : stuckC ds es = none) {p : Nat} (hp : p < ds.length) {c : List Nat} (hn : c ≠ []) (pa : Path es p c p) (hal : ∀ i ∈ c, i ∈ allowedL ds es (dp ds p)) : False := by
  have h1 := firstL_none hc _ (dp_rng h hp)
  have h2 := firstL_none h1 p (mem_places.mpr ⟨hp, rfl⟩)
  exact thr_none (n := ds.length) (fun i hi => h.edE (mem_allowed.mp hi).1) (by have := h.n2; omega) h2 hn pa hal
end Gr

/-! part Ly68 -/
set_option pp.maxSteps 400
/-! while; a, b = [..], [] -/
namespace Dy
open PySem PySem.Spec PyProof.Rows L2
theorem ds_while {X : Cx} {c : Expr} {body : List Stmt} {pos : Pos} {δ : List Sl} {Φ : DD} (Pv : Nat → List Sl → Prop) (m : Nat) (h0 : Pv m δ)
    (hs : ∀ m δ2, Pv m δ2 → ∃ b δ3, DT X c δ2 b δ3 ∧ (b = true → DSs X body δ3 { Φ with nx := fun δ' => ∃ m', m' < m ∧ Pv m' δ', ct := fun δ' => ∃ m', m' < m ∧ Pv m' δ', bk := Φ.nx }) ∧ (b = false → Φ.nx δ3))
    (hp : PassesOwn (model X.prog X.w) X.A X.env X.xe := by exact PassesOwn.never) : DS X (.While c body [] pos) δ Φ := fun F R H σ E s k =>
  (ps_while hp ptW pssW).w (by
    refine ⟨fun m σ' H' => ∃ R' δ', Tr F R R' ∧ StOk X.K F R' H' σ' δ' ∧ Pv m δ', ⟨m, R, δ, Tr.refl _ _, s, h0⟩, ?_⟩
    rintro m σ2 H2 ⟨R2, δ2, t2, s2, p2⟩
    obtain ⟨b, δ3, hb, hy, hn⟩ := hs m δ2 p2
    refine hb F R2 H2 σ2 _ s2 fun R3 H3 t3 s3 => ?_
    cases b with
    | false =>
      rw [if_neg Bool.false_ne_true]
      exact k.nx R3 H3 σ2 δ3 (t2.trans t3) s3 (hn rfl)
    | true =>
      rw [if_pos rfl]
      refine ⟨fun σ' H' => ∃ m' R' δ', m' < m ∧ Tr F R R' ∧ StOk X.K F R' H' σ' δ' ∧ Pv m' δ', fun σ' H' ⟨m', R', δ', a, b, c, d⟩ => ⟨m', a, R', δ', b, c, d⟩, ?_⟩
      have t23 := t2.trans t3
      exact hy rfl F R3 H3 σ2 _ s3 ⟨fun R' H' σ' δ' a b ⟨m', c, d⟩ => ⟨m', R', δ', c, t23.trans a, b, d⟩, (k.tr t23).rt, (k.tr t23).ro, fun R' H' σ' δ' a b c => (k.tr t23).nx R' H' σ' δ' a b c, fun R' H' σ' δ' a b ⟨m', c, d⟩ => ⟨m', R', δ', c, t23.trans a, b, d⟩⟩)
theorem ds_parLO {X : Cx} {δ δ1 : List Sl} {pos : Pos} {i j : Nat} {x y : Str} {a : Expr} {lp px py pt : Pos} {kt k2 : Nat} {pt2 : Pos} {Φ : DD} {ds : List D} (ha : DO X a δ ds δ1) (q : ∀ r p, Φ.nx ((δ1.set i (.own r ds)).set j (.own p []))) (hi : X.N[i]? = some x) (hj : X.N[j]? = some y) (hij : i ≠ j := by decide)
    (hc : X.calm = true := by rfl) (hN : X.N.Nodup := by first | assumption | decide) (hx : X.env.scope.names.lookup x = some .local := by rfl) (hy : X.env.scope.names.lookup y = some .local := by rfl)
    (hw : swappedStores [.Tuple [.Name x px, .Name y py] kt pt] (.Tuple [a, .List [] lp] k2 pt2) X.env = pure (some [x, y]) := by rfl) (hs : swapsWithSole [.Tuple [.Name x px, .Name y py] kt pt] (.Tuple [a, .List [] lp] k2 pt2) pos.line X.env = pure false := by rfl)
    (s1 : starEach [a, .List [] lp] X.env = (false, eval a X.env) :: starEach [.List [] lp] X.env := by exact st_any rfl) (s2 : starEach [.List [] lp] X.env = (false, eval (.List [] lp) X.env) :: starEach [] X.env := by exact st_any rfl) :
    DS X (.Assign [.Tuple [.Name x px, .Name y py] kt pt] (.Tuple [a, .List [] lp] k2 pt2) pos) δ Φ := fun F R H σ E s k =>
  (ps_par hc hN hi hj hij hx hy (pa_cons peW (pa_cons (pe_lst pa_nil) pa_nil s2) s1) hw hs).w (ha F R H σ _ s fun r xs R1 H1 t1 st hF hR hr ia no => by
    refine ⟨by exact Nat.zero_le _, fun p hp => ?_⟩
    have st2 := st.off (o := HO.lst []) hp
    have ne : r ≠ p := fun e => by rw [← e, hr] at hp; cases hp
    have hr2 : upd H1 p (.lst []) r = some (.lst xs) := by rw [upd_ne ne]; exact hr
    refine ⟨_, _, rfl, k.nx R1 _ _ _ t1 ((st2.setO (i := i) hF hR hr2 ia no).setO (i := j) (st.fr.free hp) (st.rg.free hp) upd_same .nil fun m es z => ?_) (q r p)⟩
    by_cases hm : m = i
    · rw [hm] at z
      rcases Nat.lt_or_ge i δ1.length with hlt | hge
      · rw [List.getElem?_set_self hlt] at z
        cases z
        exact ne rfl
      · rw [List.getElem?_eq_none (by rw [List.length_set]; exact hge)] at z; cases z
    · rw [List.getElem?_set_ne (Ne.symm hm)] at z
      obtain ⟨_, _, _, ys, hy, _⟩ := st.at_ m _ z
      rw [hp] at hy
      cases hy)
end Dy

/-! part Pk -/
namespace Dy
open PySem PySem.Spec PyProof.Rows L2
section
variable {X : Cx} {sts : List Stmt} {δ : List Sl} {Φ : DD} {ds : List D} {p : Addr}
/-- an own list becomes data -/
theorem dss_frz (i : Nat) (h : δ[i]? = some (.own p ds)) (q : DSs X sts (δ.set i (.dat (.lst ds))) Φ) : DSs X sts δ Φ := fun F R H σ E s k => by
  obtain ⟨e, hF, hR, xs, hx, a⟩ := s.at_ i _ h
  have hl : i < δ.length := (List.getElem?_eq_some_iff.mp h).1
  have no : ∀ (j : Nat) (es : List D), (δ.set i .no)[j]? ≠ some (.own p es) := fun j es z => by
    by_cases hj : j = i
    · subst hj
      rw [List.getElem?_set_self hl] at z
      cases z
    · rw [List.getElem?_set_ne (Ne.symm hj)] at z
      exact hj (s.ap j i p es ds z h)
  obtain ⟨s2, t2⟩ := (s.forget (i := i)).freeze hx hF hR no
  have s3 := s2.setD (i := i) (v := .ref p) (d := .lst ds) (.lst upd_same (a.mono t2.ex))
  have eσ : σ.set i (some (.ref p)) = σ := by
    have hl2 : i < σ.length := by rw [s.ln]; exact hl
    have : σ[i] = some (.ref p) := by
      have z := List.getElem?_eq_getElem hl2
      rw [e] at z
      exact (Option.some.inj z).symm
    rw [← this]
    exact List.set_getElem_self hl2
  rw [eσ, List.set_set] at s3
  exact q F _ H σ E s3 (k.tr t2)
end
/-! the stream of the hoard, in plain Lean -/
structure S where
  a : Int
  b : Int
  c : Int
def S.ds (s : S) : List D := [.int s.a, .int s.b, .int s.c]
structure Hd (n : Nat) (s : S) : Prop where
  b0 : 0 ≤ s.b
  b1 : s.b < 2 ^ 150
  c0 : 0 ≤ s.c
  c1 : s.c ≤ n
theorem Hd.mono {m n : Nat} {s : S} (h : Hd m s) (e : m ≤ n) : Hd n s := ⟨h.b0, h.b1, h.c0, by have := h.c1; omega⟩
def M42 : Int := 10 ^ 42 + 63
def M44 : Int := 10 ^ 44 + 57
def M30 : Int := 10 ^ 30 + 1
theorem m42_pos : 0 < M42 := by decide +kernel
theorem m44_pos : 0 < M44 := by decide +kernel
theorem m42_lt : M42 < 2 ^ 150 := by decide +kernel
theorem m44_lt : M44 < 2 ^ 150 := by decide +kernel
theorem m30_pos : 0 < M30 := by decide +kernel
theorem m30_log : M30.natAbs.log2 < 9000 := by decide +kernel
def mixA (b c : Int) : Int := (b + 32452843 * c) ^ 3 % M42
def mixB (x c : Int) : Int := (x + 86028121 * c) ^ 3 % M44
def mix (b c : Int) : Int := mixB (mixA b c) c / 655357
def pick (s : S) (m : Int) : Int × S := if 0 < s.a then (s.a % m, ⟨s.a / m, s.b, s.c⟩) else (mix s.b (s.c + 1) % m, ⟨s.a, s.b, s.c + 1⟩)
theorem pick_hd {n : Nat} {s : S} {m : Int} (h : Hd n s) (hm : 0 < m) : Hd (n + 1) (pick s m).2 ∧ 0 ≤ (pick s m).1 ∧ (pick s m).1 < m := by
  unfold pick
  by_cases ha : 0 < s.a
  · rw [if_pos ha]
    exact ⟨⟨h.b0, h.b1, h.c0, by have := h.c1; show s.c ≤ _; omega⟩, Int.emod_nonneg _ (by omega), Int.emod_lt_of_pos _ hm⟩
  · rw [if_neg ha]
    exact ⟨⟨h.b0, h.b1, by have := h.c0; show 0 ≤ s.c + 1; omega, by have := h.c1; show s.c + 1 ≤ _; omega⟩, Int.emod_nonneg _ (by omega), Int.emod_lt_of_pos _ hm⟩
/-- one after another -/
def runL {α β : Type} (g : β → S → α × S) (l : List β) (s : S) : List α × S := l.foldl (fun r b => (r.1 ++ [(g b r.2).1], (g b r.2).2)) ([], s)
theorem runL_snoc {α β : Type} {g : β → S → α × S} {l : List β} {b : β} {s : S} : runL g (l ++ [b]) s = ((runL g l s).1 ++ [(g b (runL g l s).2).1], (g b (runL g l s).2).2) := by
  unfold runL
  rw [List.foldl_append]
  rfl
theorem runL_take {α β : Type} {g : β → S → α × S} {l : List β} {i : Nat} {b : β} {s : S} (h : l[i]? = some b) : runL g (l.take (i + 1)) s = ((runL g (l.take i) s).1 ++ [(g b (runL g (l.take i) s).2).1], (g b (runL g (l.take i) s).2).2) := by
  rw [List.take_add_one, h]
  exact runL_snoc
theorem runL_hd {α β : Type} {g : β → S → α × S} {P : α → Prop} {q : Nat} {l : List β} (hg : ∀ b ∈ l, ∀ n s, Hd n s → Hd (n + q) (g b s).2 ∧ P (g b s).1) {n : Nat} {s : S} (h : Hd n s) : ∀ i, i ≤ l.length →
    Hd (n + q * i) (runL g (l.take i) s).2 ∧ (∀ x ∈ (runL g (l.take i) s).1, P x) ∧ (runL g (l.take i) s).1.length = i
  | 0, _ => ⟨by simpa [runL] using h, by simp [runL], by simp [runL]⟩
  | i + 1, hi => by
    obtain ⟨h1, h2, h3⟩ := runL_hd hg h i (by omega)
    have e : l[i]? = some l[i] := List.getElem?_eq_getElem (by omega)
    rw [runL_take e]
    obtain ⟨g1, g2⟩ := hg l[i] (List.getElem_mem _) _ _ h1
    refine ⟨?_, fun x hx => ?_, ?_⟩
    · have : n + q * (i + 1) = n + q * i + q := by rw [Nat.mul_succ]; omega
      rw [this]
      exact g1
    · rcases List.mem_append.mp hx with hx | hx
      · exact h2 x hx
      · rw [List.mem_singleton.mp hx]
        exact g2
    · show ((runL g (l.take i) s).1 ++ [_]).length = i + 1
      rw [List.length_append, h3]
      rfl
theorem runL_all {α β : Type} {g : β → S → α × S} {P : α → Prop} {q : Nat} {l : List β} (hg : ∀ b ∈ l, ∀ n s, Hd n s → Hd (n + q) (g b s).2 ∧ P (g b s).1) {n : Nat} {s : S} (h : Hd n s) :
    Hd (n + q * l.length) (runL g l s).2 ∧ (∀ x ∈ (runL g l s).1, P x) ∧ (runL g l s).1.length = l.length := by
  have z := runL_hd hg h l.length (Nat.le_refl _)
  rwa [List.take_length] at z
/-! axes and times -/
def optS (s : S) : Int × S := pick (pick s 2).2 (if (pick s 2).1 = 0 then 9 else M30)
def axis1 (most : Int) (s : S) : List Int × S :=
  let x := pick s most
  let y := pick x.2 2
  if y.1 = 0 then ((List.range (1 + x.1).toNat).map fun i : Nat => (i : Int), y.2)
  else
    let z := runL (fun _ => optS) (List.range (1 + x.1).toNat) y.2
    (usort z.1, z.2)
def axesS (s : S) (d : Nat) (most : Int) : List (List Int) × S := runL (fun _ => axis1 most) (List.range d) s
def at1 (ax : List Int) (s : S) : Int × S := (ax.getD (pick s ax.length).1.toNat 0, (pick s ax.length).2)
def timeS (s : S) (axes : List (List Int)) : List Int × S := runL at1 axes s
theorem opt_hd {n : Nat} {s : S} (h : Hd n s) : Hd (n + 2) (optS s).2 ∧ 0 ≤ (optS s).1 ∧ (optS s).1 < M30 := by
  obtain ⟨h1, h2, h3⟩ := pick_hd h (m := 2) (by decide)
  unfold optS
  by_cases hc : (pick s 2).1 = 0
  · rw [if_pos hc]
    obtain ⟨g1, g2, g3⟩ := pick_hd h1 (m := 9) (by decide)
    exact ⟨g1, g2, Int.lt_of_lt_of_le g3 (by decide +kernel)⟩
  · rw [if_neg hc]
    exact pick_hd h1 m30_pos
/-- an axis -/
structure Ax (ax : List Int) : Prop where
  lo : 1 ≤ ax.length
  hi : ax.length ≤ 20
  rg : ∀ i ∈ ax, 0 ≤ i ∧ i < M30
theorem usort_ne {ns : List Int} (h : 1 ≤ ns.length) : 1 ≤ (usort ns).length := by
  match ns, h with
  | n :: ns, _ =>
    have m : n ∈ usort (n :: ns) := mem_usort.mpr List.mem_cons_self
    exact List.length_pos_of_mem m
theorem axis1_hd {n : Nat} {s : S} {most : Int} (h : Hd n s) (h0 : 0 < most) (h9 : most ≤ 9) : Hd (n + 20) (axis1 most s).2 ∧ Ax (axis1 most s).1 := by
  obtain ⟨h1, h2, h3⟩ := pick_hd h h0
  obtain ⟨g1, g2, g3⟩ := pick_hd h1 (m := 2) (by decide)
  have hN : ∃ j : Nat, (1 + (pick s most).1).toNat = j ∧ 1 ≤ j ∧ j ≤ 9 := ⟨_, rfl, by omega, by omega⟩
  obtain ⟨j, ej, j1, j2⟩ := hN
  unfold axis1
  simp only [ej]
  by_cases hc : (pick (pick s most).2 2).1 = 0
  · rw [if_pos hc]
    refine ⟨g1.mono (by omega), ⟨by rw [List.length_map, List.length_range]; exact j1, by rw [List.length_map, List.length_range]; omega, fun i hi => ?_⟩⟩
    obtain ⟨k, hk, rfl⟩ := List.mem_map.mp hi
    have := List.mem_range.mp hk
    exact ⟨by omega, Int.lt_of_le_of_lt (b := 9) (by omega) (by decide +kernel)⟩
  · rw [if_neg hc]
    obtain ⟨r1, r2, r3⟩ := runL_all (g := fun _ => optS) (P := fun i => 0 ≤ i ∧ i < M30) (q := 2) (l := List.range j) (fun b _ n s h => ⟨(opt_hd h).1, (opt_hd h).2⟩) g1
    rw [List.length_range] at r1 r3
    exact ⟨r1.mono (by omega), ⟨usort_ne (by rw [r3]; exact j1), Nat.le_trans (usort_len _) (by rw [r3]; omega), fun i hi => r2 i (mem_usort.mp hi)⟩⟩
theorem axes_hd {n d : Nat} {s : S} {most : Int} (h : Hd n s) (h0 : 0 < most) (h9 : most ≤ 9) : Hd (n + 20 * d) (axesS s d most).2 ∧ (∀ ax ∈ (axesS s d most).1, Ax ax) ∧ (axesS s d most).1.length = d := by
  have z := runL_all (g := fun _ => axis1 most) (P := Ax) (q := 20) (l := List.range d) (fun b _ n s h => axis1_hd h h0 h9) h
  rwa [List.length_range] at z
theorem time_hd {n : Nat} {s : S} {axes : List (List Int)} (h : Hd n s) (ha : ∀ ax ∈ axes, Ax ax) : Hd (n + axes.length) (timeS s axes).2 ∧ (∀ i ∈ (timeS s axes).1, 0 ≤ i ∧ i < M30) ∧ (timeS s axes).1.length = axes.length := by
  have z := runL_all (g := at1) (P := fun i => 0 ≤ i ∧ i < M30) (q := 1) (l := axes) (fun ax hax n s h => by
    have A := ha ax hax
    have al := A.lo
    obtain ⟨h1, h2, h3⟩ := pick_hd h (m := ax.length) (by omega)
    refine ⟨h1, ?_⟩
    show 0 ≤ ax.getD _ 0 ∧ _
    have hi : (pick s ax.length).1.toNat < ax.length := by omega
    have e : ax.getD (pick s ax.length).1.toNat 0 = ax[(pick s ax.length).1.toNat] := by rw [List.getD_eq_getElem?_getD, List.getElem?_eq_getElem hi]; rfl
    show 0 ≤ ax.getD (pick s ax.length).1.toNat 0 ∧ ax.getD (pick s ax.length).1.toNat 0 < M30
    rw [e]
    exact A.rg _ (List.getElem_mem _)) h
  rw [Nat.one_mul] at z
  exact z
/-! bits -/
theorem pow_ok {x : Int} (h : x.natAbs < 2 ^ 200) : CPowW x 3 := ⟨by decide, by
  have z : Builtin.Int.intBits x ≤ 200 := intBits_le_iff.mpr h
  have : ((2 : Int) ^ 27) = 134217728 := by decide
  rw [this]
  omega⟩
theorem log_small {x : Int} {b : Nat} (h : x.natAbs < 2 ^ b) (h0 : 0 < b) : x.natAbs.log2 < b := PySem.Flt.log2_lt_of h0 h
theorem mul_small {x y : Int} (hx : x.natAbs < 2 ^ 400) (hy : y.natAbs < 2 ^ 400) : CMulW x y := by
  have a := log_small hx (by decide)
  have b := log_small hy (by decide)
  unfold CMulW
  omega
theorem mix_ok {n : Nat} {b c : Int} (h0 : 0 ≤ b) (h1 : b < 2 ^ 150) (c0 : 0 ≤ c) (c1 : c ≤ n) (hn : n ≤ 1000000) (k : Int) (k0 : 0 ≤ k) (k1 : k < 2 ^ 27) : CMulW k c ∧ CPowW (b + k * c) 3 := by
  have c2 : c ≤ 1000000 := by omega
  have kc : 0 ≤ k * c := Int.mul_nonneg k0 c0
  have kc2 : k * c ≤ 2 ^ 27 * 1000000 := Int.le_trans (Int.mul_le_mul_of_nonneg_right (Int.le_of_lt k1) c0) (Int.mul_le_mul_of_nonneg_left c2 (by decide))
  refine ⟨mul_small ?_ ?_, pow_ok ?_⟩
  · have : (k.natAbs : Int) < 2 ^ 400 := by
      have : (2 : Int) ^ 27 < 2 ^ 400 := by decide +kernel
      omega
    exact_mod_cast this
  · have : (c.natAbs : Int) < 2 ^ 400 := by
      have : (1000000 : Int) < 2 ^ 400 := by decide +kernel
      omega
    exact_mod_cast this
  · have : ((b + k * c).natAbs : Int) < 2 ^ 200 := by
      have : (2 : Int) ^ 150 + 2 ^ 27 * 1000000 < 2 ^ 200 := by decide +kernel
      omega
    exact_mod_cast this
theorem at_int {xs : List D} {i : Int} {d : D} (h0 : 0 ≤ i) (h : xs[i.toNat]? = some d) : atI xs i = some d := by
  have e : i = (i.toNat : Int) := by omega
  rw [e]
  exact atI_nat h
abbrev lI (t : List Int) : D := .lst (t.map D.int)
end Dy

/-! part Hd -/
namespace Kk
open PySem PySem.Spec PyProof.Rows L2 Dy
def topS (i : Nat) : Stmt := PySem.Challenge.pw_gridtraces_k47_stuck_cycles_of_small_net.main.body.getD i (.Pass ⟨0, 0, 0, 0⟩)
abbrev sStuckE : Stmt := topS 4
abbrev sStuckI : Stmt := inClass sStuckE 0
abbrev sIsNum : Stmt := topS 9
abbrev sFits : Stmt := topS 10
abbrev sIsEdge : Stmt := topS 11
abbrev sIsNet : Stmt := topS 12
abbrev sReqNet : Stmt := topS 13
abbrev sCycThr : Stmt := topS 14
abbrev sStuckC : Stmt := topS 15
abbrev sIsCyc : Stmt := topS 16
abbrev sIsStuck : Stmt := topS 17
abbrev sGr : Stmt := topS 18
abbrev sGIni : Stmt := inClass sGr 0
abbrev sGDep : Stmt := inClass sGr 1
abbrev sGEdg : Stmt := inClass sGr 2
abbrev sGMov : Stmt := inClass sGr 3
abbrev sGLen : Stmt := inClass sGr 4
abbrev sGEq : Stmt := inClass sGr 5
abbrev sSpring : Stmt := topS 20
abbrev sDraw : Stmt := topS 21
abbrev sLNet : Stmt := topS 22
abbrev sLCycs : Stmt := topS 23
abbrev sLStuck : Stmt := topS 24
abbrev sLCyc : Stmt := topS 25
abbrev sLVals : Stmt := topS 26
abbrev sRight : Stmt := topS 27
abbrev sLaw : Stmt := topS 28
end Kk

/-! part K01a -/
namespace Kk
open PySem PySem.Spec PyProof.Rows L2 Dy
abbrev sEqual : Stmt := topS 26
/-- the built-in names -/
structure Txt (mg : Str → Option Value) : Prop where
  isinstance : mg "isinstance" = none
  int : mg "int" = none
  bool : mg "bool" = none
  tuple : mg "tuple" = none
  len : mg "len" = none
  all : mg "all" = none
  any : mg "any" = none
  zip : mg "zip" = none
  max : mg "max" = none
  min : mg "min" = none
  range : mg "range" = none
  list : mg "list" = none
  sorted : mg "sorted" = none
  set : mg "set" = none
  repr : mg "repr" = none
/-- a def of the text -/
structure Df (K : PySem.W.Frag) (mg : Str → Option Value) (x : Str) (st : Stmt) (f : Addr) (fd : FuncData) : Prop where
  fn : Fun K x x st f fd
  gl : mg x = some (.ref f)
/-- an int, no bool -/
def isI : D → Bool
  | .int _ => true
  | _ => false
/-- an int from 0 on -/
def isN : D → Bool
  | .int i => decide (0 ≤ i)
  | _ => false
/-- a time of that depth -/
def isTm : D → Int → Bool
  | .tup ds, n => decide ((ds.length : Int) = n) && ds.all isN
  | _, _ => false
theorem kit_all_int {d : D} {t : String} (h : tyD d = some t) (hb : ∀ b, d ≠ .bl b) : kitB t "int" = some (isI d) := by
  cases d <;> cases h
  · exact (by decide +kernel : kitB "NoneType" "int" = some false)
  · exact absurd rfl (hb _)
  · exact (by decide +kernel : kitB "int" "int" = some true)
  · exact (by decide +kernel : kitB "str" "int" = some false)
  · exact (by decide +kernel : kitB "list" "int" = some false)
  · exact (by decide +kernel : kitB "tuple" "int" = some false)
  · exact (by decide +kernel : kitB "list" "int" = some false)
  · exact (by decide +kernel : kitB "dict" "int" = some false)
theorem kit_all_tup {d : D} {t : String} (h : tyD d = some t) (hb : ∀ ds, d ≠ .tup ds) : kitB t "tuple" = some false := by
  cases d <;> cases h <;> first | exact absurd rfl (hb _) | decide +kernel
section
variable {P : Program} {w : World} {K : PySem.W.Frag} {mg : Str → Option Value} {base : Heap} {f f2 f3 : Addr} {fd fd2 fd3 : FuncData}
abbrev cIsInt : List D → D → Prop := fun ds d => ∃ x t, ds = [x] ∧ tyD x = some t ∧ d = .bl (isI x)
/-- what is_time may be asked -/
def Ask (K : PySem.W.Frag) (C : Addr) (x : D) : Prop := (∃ t, tyD x = some t ∧ ∀ ds, x = .tup ds → (∀ d ∈ ds, ∃ t, tyD d = some t) ∧ ds.length ≤ 1000) ∨ ∃ ns ds, x = .obj C ns ds
abbrev cIsTime (K : PySem.W.Frag) (C : Addr) : List D → D → Prop := fun ds d => ∃ (x : D) (n : Int), ds = [x, .int n] ∧ Ask K C x ∧ d = .bl (isTm x n)
end
end Kk

/-! part K01b -/
namespace Dy
open PySem PySem.Spec PyProof.Rows L2
theorem log_lt {x : Int} {b : Nat} (h0 : 0 ≤ x) (h : x < 2 ^ b) (hb : 0 < b) : x.natAbs.log2 < b := log_small (by
  have : (x.natAbs : Int) < 2 ^ b := by omega
  exact_mod_cast this) hb
theorem log_m30 {x : Int} (h0 : 0 ≤ x) (h : x < M30) : x.natAbs.log2 < 150 := log_lt h0 (Int.lt_trans h (by decide +kernel)) (by decide)
end Dy
namespace Kk
open PySem PySem.Spec PyProof.Rows L2 Dy
section
variable {P : Program} {w : World} {K : PySem.W.Frag} {mg : Str → Option Value} {base : Heap} {f f2 f3 f4 : Addr} {fd fd2 fd3 fd4 : FuncData}
/-! the hoard -/
def hoardS (ns : List Int) (k : Nat) : S := ⟨max 0 (ns.getD k 0 - 10 ^ 18), ns.getD k 0 % (10 ^ 39 + 3) + 70001 * k + 29, 0⟩
theorem hoard_hd (ns : List Int) {k : Nat} (hk : k ≤ 100) : Hd 0 (hoardS ns k) := by
  have p : (0 : Int) < 10 ^ 39 + 3 := by decide +kernel
  have h1 := Int.emod_nonneg (ns.getD k 0) (Int.ne_of_gt p)
  have h2 := Int.emod_lt_of_pos (ns.getD k 0) p
  have h3 : (10 : Int) ^ 39 + 3 + 70001 * 100 + 29 < 2 ^ 150 := by decide +kernel
  refine ⟨?_, ?_, Int.le_refl _, Int.le_refl _⟩
  · show 0 ≤ ns.getD k 0 % (10 ^ 39 + 3) + 70001 * (k : Int) + 29
    omega
  · show ns.getD k 0 % (10 ^ 39 + 3) + 70001 * (k : Int) + 29 < 2 ^ 150
    omega
abbrev cHoard : List D → List D → Prop := fun ds es => ∃ (ns : List Int) (k : Nat), ds = [.rol (ns.map D.int), .int k] ∧ k ≤ 100 ∧ es = (hoardS ns k).ds
/-! one draw -/
abbrev cPick : List D → List D → D → List D → Prop := fun hs ds d hs' => ∃ (n : Nat) (s : S) (m : Int), hs = s.ds ∧ ds = [.int m] ∧ Hd n s ∧ n ≤ 100000 ∧ 0 < m ∧ m.natAbs.log2 < 9000 ∧ d = .int (pick s m).1 ∧ hs' = (pick s m).2.ds
abbrev nAxes : List Str := ["_law_hoard_here", "_law_depth", "_law_most", "_law_found", "_law_axis", "_law_many", "_law_some", "_law_turn"]
abbrev cAxes : List D → List D → D → List D → Prop := fun hs ds d hs' => ∃ (n : Nat) (s : S) (dep : Nat) (most : Int), hs = s.ds ∧ ds = [.int dep, .int most] ∧ Hd n s ∧ n ≤ 10000 ∧ dep ≤ 3 ∧ 0 < most ∧ most ≤ 9 ∧ d = .lst ((axesS s dep most).1.map lI) ∧ hs' = (axesS s dep most).2.ds
abbrev nTime : List Str := ["_law_hoard_here", "_law_axes_here", "_law_some"]
abbrev cTime : List D → List D → D → List D → Prop := fun hs ds d hs' => ∃ (n : Nat) (s : S) (axes : List (List Int)), hs = s.ds ∧ ds = [.lst (axes.map lI)] ∧ Hd n s ∧ n ≤ 10000 ∧ (∀ ax ∈ axes, Ax ax) ∧ axes.length ≤ 3 ∧ d = tI (timeS s axes).1 ∧ hs' = (timeS s axes).2.ds
/-! two times -/
abbrev nTwo : List Str := ["_law_one", "_law_two", "_law_a", "_law_b"]
/-- each at most the other's -/
def leAll (t u : List Int) : Bool := (List.zipWith (fun a b => decide (a ≤ b)) t u).all id
theorem zipD (t u : List Int) : List.zipWith (fun x y => D.tup [x, y]) (t.map D.int) (u.map D.int) = (t.zip u).map fun q => D.tup [.int q.1, .int q.2] := by
  rw [List.zip, List.map_zipWith, List.zipWith_map]
abbrev cTwo (J : List Int → List Int → D) : List D → D → Prop := fun ds d => ∃ t u : List Int, ds = [tI t, tI u] ∧ t.length ≤ 1000 ∧ d = J t u
def prI : D → Int × Int
  | .tup [.int a, .int b] => (a, b)
  | _ => (0, 0)
/-- the ones of [1 for a, b in zip(t, u) if a > b] -/
def bad (l : List (Int × Int)) : List D := (l.filter fun q => decide (q.2 < q.1)).map fun _ => .int 1
theorem bad_snoc (l : List (Int × Int)) (q : Int × Int) : bad (l ++ [q]) = bad l ++ if q.2 < q.1 then [.int 1] else [] := by
  unfold bad
  rw [List.filter_append, List.map_append]
  by_cases h : q.2 < q.1
  · rw [if_pos h, List.filter_cons_of_pos (by exact decide_eq_true h)]
    rfl
  · rw [if_neg h, List.filter_cons_of_neg (by rw [decide_eq_false h]; decide)]
    rfl
theorem bad_ints (l : List (Int × Int)) : bad l = ((l.filter fun q => decide (q.2 < q.1)).map fun _ => (1 : Int)).map D.int := by
  unfold bad
  rw [List.map_map]
  rfl
theorem bad_le : ∀ t u : List Int, decide (((t.zip u).filter fun q => decide (q.2 < q.1)).map (fun _ => (1 : Int)) = []) = leAll t u
  | [], _ => by simp [leAll]
  | _ :: _, [] => by simp [leAll]
  | a :: t, b :: u => by
    have ih := bad_le t u
    by_cases h : b < a
    · have e : ¬ a ≤ b := by omega
      simp [leAll, h, e]
    · have e : a ≤ b := by omega
      have e2 : leAll (a :: t) (b :: u) = leAll t u := by simp [leAll, e]
      rw [e2, ← ih]
      show decide (List.map _ (List.filter _ ((a, b) :: t.zip u)) = []) = _
      rw [List.filter_cons_of_neg (by rw [decide_eq_true_eq]; exact h)]
end
end Kk

/-! part Ly29 -/
namespace Dy
open PySem PySem.Spec PyProof.Rows L2
/-! t < u, two tuples of ints of one length -/
theorem lexAt_shift (e r : Nat → Bool) (z : Bool) : ∀ k i, Ob.lexAt e r z (i + 1) k = Ob.lexAt (fun j => e (j + 1)) (fun j => r (j + 1)) z i k
  | 0, _ => rfl
  | k + 1, i => by rw [Ob.lexAt_succ, Ob.lexAt_succ, lexAt_shift e r z k (i + 1)]
theorem lexAt_lt : ∀ {p q : List Int}, p.length = q.length → Ob.lexAt (fun j => decide (p.getD j 0 = q.getD j 0)) (fun j => decide (p.getD j 0 < q.getD j 0)) false 0 p.length = lexLt p q
  | [], [], _ => rfl
  | x :: p, y :: q, h => by
    rw [List.length_cons, Ob.lexAt_succ, lexAt_shift]
    show (if decide (x = y) = true then Ob.lexAt (fun j => decide (p.getD j 0 = q.getD j 0)) (fun j => decide (p.getD j 0 < q.getD j 0)) false 0 p.length else decide (x < y)) = (decide (x < y) || (decide (x = y) && lexLt p q))
    rw [lexAt_lt (by simpa using h)]
    by_cases e : x = y
    · subst e
      rw [if_pos (decide_eq_true rfl), decide_eq_false (Int.lt_irrefl x), decide_eq_true rfl]
      rfl
    · rw [if_neg (by rw [decide_eq_false e]; decide), decide_eq_false e, Bool.false_and, Bool.or_false]
  | [], _ :: _, h => by cases h
  | _ :: _, [], h => by cases h
def rLtT (K : PySem.W.Frag) : R2 := fun x y H Q => ∃ (a b : Addr) (p q : List Int), x = .ref a ∧ y = .ref b ∧ SqT K H a (p.map V.int) ∧ SqT K H b (q.map V.int) ∧ p.length = q.length ∧ Q (.bl (lexLt p q)) H
theorem ints_at {vs : List Value} {p : List Int} (i : IntsAre vs p) : ∀ j (h : j < vs.toArray.size), ∃ t, vs.toArray[j] = .int (p.getD j 0) t := fun j h => PyProof.Rows.IntsAre.int_at i _ _ (by simp at h; simp [h])
theorem op_ltT {X : Cx} (hu : X.A.units < cLine) : OpR X (compareOp .Lt) (rLtT X.K) := by
  intro pins s σ H x y v u Q I rx ry ⟨a, b, p, q, e1, e2, ha, hb, len, k⟩
  subst e1 e2
  cases rx
  cases ry
  obtain ⟨va, r1, p1, _⟩ := I.tuple ha
  obtain ⟨vb, r2, p2, _⟩ := I.tuple hb
  have ia : IntsAre va p := Vals.ints r1
  have ib : IntsAre vb q := Vals.ints r2
  have la : va.toArray.size = p.length := by rw [List.size_toArray]; exact ia.length
  have lb : vb.toArray.size = q.length := by rw [List.size_toArray]; exact ib.length
  have W := Ob.RcOp.tuples_lt (A := X.A) (s := s) (e := fun j => decide (p.getD j 0 = q.getD j 0)) (r := fun j => decide (p.getD j 0 < q.getD j 0)) p1 p2 hu (fun j h1 h2 => by
    obtain ⟨t1, f1⟩ := ints_at ia j h1
    obtain ⟨t2, f2⟩ := ints_at ib j h2
    rw [f1, f2, show decide (p.getD j 0 = q.getD j 0) = (p.getD j 0 == q.getD j 0) from Bool.eq_iff_iff.mpr (by simp)]
    exact SeqAt.EqAt.int_int _ _ _ _) (fun j h1 h2 _ => by
    obtain ⟨t1, f1⟩ := ints_at ia j h1
    obtain ⟨t2, f2⟩ := ints_at ib j h2
    rw [f1, f2]
    exact Ob.RcOp.lt_int _ _ _ _)
  rw [la, lb, ← len, Nat.min_self, decide_eq_false (Nat.lt_irrefl _), lexAt_lt len] at W
  exact W X.prog X.w X.xe (EP X pins σ Q) ⟨.bl _, H, I, rfl, k⟩
section
variable {X : Cx} {a b : Expr} {δ δ1 δ2 : List Sl} {pos : Pos} {k : Nat}
theorem sqT_ints {K : PySem.W.Frag} {R H : Hp} {v : V} {t : List Int} (e : Same R H) (i : Is K R v (tI t)) : ∃ a, v = .ref a ∧ SqT K H a (t.map V.int) := by
  have i' : Is K R v (.tup (t.map D.int)) := i
  cases i' with
  | @tup a xs _ q ia =>
    exact ⟨a, rfl, by rw [← ia.ints]; exact same_sqT e q⟩
theorem dt_ltT {p q : List Int} (g : Gx X k) (len : p.length = q.length) (ha : DE X a δ (tI p) δ1) (hb : DE X b δ1 (tI q) δ2) : DT X (.Compare a [.Lt] [b] pos) δ (lexLt p q) δ2 := fun F R H σ Q s kq =>
  (pt_cmpR (op_ltT (by have := g.rm.units; omega)) peW peW (nomark _)).w (ha F R H σ _ s fun x R1 H1 t1 s1 ix => hb F R1 H1 σ _ s1 fun y R2 H2 t2 s2 iy => by
    obtain ⟨A, e1, q1⟩ := sqT_ints s2.rg (ix.mono t2.ex)
    obtain ⟨B, e2, q2⟩ := sqT_ints s2.rg iy
    exact ⟨A, B, p, q, e1, e2, q1, q2, len, _, rfl, kq R2 H2 (t1.trans t2) s2⟩)
/-- l <= m < n as a test -/
theorem dt_chain {c : Expr} {op op' : CmpOp} {g g' : Int → Int → Bool} {l m n : Int} (ha : DE X a δ (.int l) δ1) (hb : DE X b δ1 (.int m) δ2) (hc : DE X c δ2 (.int n) δ2)
    (p : PT X (.Compare a [op, op'] [b, c] pos) (tTest (tChain (rI0 fun i j => .bl (g i j)) (rI0 fun i j => .bl (g' i j)) (wE X a) (wE X b) (wE X c)))) :
    DT X (.Compare a [op, op'] [b, c] pos) δ (g l m && g' m n) δ2 := fun F R H σ Q s k =>
  p.w (ha F R H σ _ s fun x R1 H1 t1 s1 ix => hb F R1 H1 σ _ s1 fun y R2 H2 t2 s2 iy => by
    cases ix
    cases iy
    refine ⟨l, m, rfl, rfl, g l m, rfl, ?_⟩
    cases hg : g l m with
    | true =>
      rw [if_pos rfl]
      refine hc F R2 H2 σ _ s2 fun z R3 H3 t3 s3 iz => ?_
      cases iz
      refine ⟨m, n, rfl, rfl, g' m n, rfl, ?_⟩
      have e := k R3 H3 ((t1.trans t2).trans t3) s3
      rw [hg] at e
      exact e
    | false =>
      rw [if_neg Bool.false_ne_true]
      have e := k R2 H2 (t1.trans t2) s2
      rw [hg] at e
      exact ⟨false, rfl, e⟩)
/-- a, b, .. = a list of that length -/
theorem dg_lst {tgs : List Expr} {j : Nat} {ws : List Nat} {ds : List D} (h : DGs X tgs ds ws δ δ1) (hc : X.calm = true := by rfl) (hn : (assignEach tgs X.env).length = ds.length := by rfl) (hst : (assignEach tgs X.env).findIdx? (·.1) = none := by rfl) : DG X (.Tuple tgs j pos) (.lst ds) ws δ δ1 := fun F R H σ v Q s iv k => by
  cases iv with
  | lst hq ia => exact (pg_unl hc pgs_w hn hst).w ⟨_, _, rfl, SqL.of (s.rg _ _ hq), ia.len, h F R H σ _ Q s ia k⟩
/-- a or b, where a says no and b changes something -/
theorem dt_orF {n : Bool} (ha : DT X a δ false δ1) (hb : DT X b δ1 n δ2) : DT X (.BoolOp .Or [a, b] pos) δ n δ2 := fun F R H σ Q s k =>
  (PW.pt (pw_or ptW (pw_or1 ptW))).w (ha F R H σ _ s fun R1 H1 t1 s1 => by
    rw [if_neg Bool.false_ne_true]
    exact hb F R1 H1 σ _ s1 fun R2 H2 t2 s2 => k R2 H2 (t1.trans t2) s2)
end
end Dy

/-! part P10 -/
namespace Kk
open PySem PySem.Spec PyProof.Rows L2 Dy
theorem _root_.Dy.do_isQ {X : Cx} {e : Expr} {δ δ1 : List Sl} {ds ds2 : List D} (h : DO X e δ ds δ1) (q : ds = ds2) : DO X e δ ds2 δ1 := q ▸ h
theorem de_p10 {X : Cx} {n : Nat} {j1 j2 : Nat} {p1 p2 p3 : Pos} {δ : List Sl} (h : (Builtin.Int.intBits 10 : Int) * (n : Int) ≤ 2 ^ 27) : DE X (.BinOp (.Constant (.int 10) j1 p1) .Pow (.Constant (.int (n : Int)) j2 p2) p3) δ (.int ((10 : Int) ^ n)) δ :=
  de_is (de_pow ⟨by omega, h⟩ de_int de_int) (by rw [Int.toNat_natCast])
def T29 : Int := 10 ^ 29
def T10' : Int := 10 ^ 10
end Kk

/-! part Gn -/
namespace Dy
open PySem PySem.Spec PyProof.Rows L2
/-! defs by their names -/
def Gn (P : Program) (w : World) (K : PySem.W.Frag) (mg : Str → Option Value) (base : Heap) (x : Str) (k : Nat) (sp : Sp) : Prop := ∃ f, mg x = some (.ref f) ∧ PySem.W.keepIn K (.ref f) = true ∧ FnG P w K mg base CX0 k f sp
theorem gn_mk {P : Program} {w : World} {K : PySem.W.Frag} {mg : Str → Option Value} {base : Heap} {x : Str} {k : Nat} {sp : Sp} {st : Stmt} {f : Addr} {fd : FuncData} (D : Kk.Df K mg x st f fd) (G : FnG P w K mg base CX0 k f sp) : Gn P w K mg base x k sp := ⟨f, D.gl, D.fn.kp, G⟩
section
variable {X : Cx} {k k' : Nat} {x : Str} {e : Expr} {es : List Expr} {p pos : Pos} {δ δ1 : List Sl} {ds gs : List D} {d : D}
theorem de_callN {Cc : List D → D → Prop} (N : Gn X.prog X.w X.K X.mg X.base x k (spP X.K Cc)) (g : Gx X k') (h : DA X (e :: es) δ ds δ1) (c : Cc ds d) (hk : k ≤ k' := by decide) (hg : Gl X x := by rfl) (hd : (x == ("__debug__" : Str)) = false := by decide)
    (hst : starEach (e :: es) X.env = (false, eval e X.env) :: starEach es X.env := by exact st_any rfl) (hpl : (backTo pos (starEach es X.env)).any (·.1) = false := by rfl) : DE X (.Call (.Name x p) (e :: es) [] pos) δ d δ1 := by
  obtain ⟨f, gl, kp, G⟩ := N
  exact de_call (G.mono hk) ⟨g.rm, g.gd⟩ gl kp h c hg hd hst hpl
theorem do_callN {Cc : List D → List D → Prop} (N : Gn X.prog X.w X.K X.mg X.base x k (spO X.K Cc)) (g : Gx X k') (h : DA X (e :: es) δ ds δ1) (c : Cc ds gs) (hk : k ≤ k' := by decide) (hg : Gl X x := by rfl) (hd : (x == ("__debug__" : Str)) = false := by decide)
    (hst : starEach (e :: es) X.env = (false, eval e X.env) :: starEach es X.env := by exact st_any rfl) (hpl : (backTo pos (starEach es X.env)).any (·.1) = false := by rfl) : DO X (.Call (.Name x p) (e :: es) [] pos) δ gs δ1 := by
  obtain ⟨f, gl, kp, G⟩ := N
  exact do_call (G.mono hk) ⟨g.rm, g.gd⟩ gl kp h c hg hd hst hpl
theorem de_callHN {Cc : List D → List D → D → List D → Prop} {r : Addr} {hs hs1 hs2 : List D} {y : Str} {yp : Pos} (i : Nat) (N : Gn X.prog X.w X.K X.mg X.base x k (spH X.K Cc)) (g : Gx X k')
    (hi : δ[i]? = some (.own r hs)) (h : DA X es δ ds δ1) (hi1 : δ1[i]? = some (.own r hs1)) (c : Cc hs1 ds d hs2) (hk : k ≤ k' := by decide) (hN : X.N[i]? = some y := by rfl) (hv : Vis X.env.scope y := by first | exact Or.inl rfl | exact Or.inr (Or.inl rfl) | exact Or.inr (Or.inr rfl)) (hg : Gl X x := by rfl) (hd : (x == ("__debug__" : Str)) = false := by decide)
    (hyd : (y == ("__debug__" : Str)) = false := by decide) (hyc : (y == ("__classdict__" : Str)) = false := by decide) (hst : starEach (.Name y yp :: es) X.env = (false, eval (.Name y yp) X.env) :: starEach es X.env := by exact st_any rfl) (hpl : (backTo pos (starEach es X.env)).any (·.1) = false := by rfl) :
    DE X (.Call (.Name x p) (.Name y yp :: es) [] pos) δ d (δ1.set i (.own r hs2)) := by
  obtain ⟨f, gl, kp, G⟩ := N
  exact de_callH (G.mono hk) ⟨g.rm, g.gd⟩ gl kp hi h hi1 c hN hv hg hd hyd hyc hst hpl
end
end Dy
namespace Kk
open PySem PySem.Spec PyProof.Rows L2 Dy
section
variable {X : Cx} {k : Nat} {e : Expr} {p pos : Pos} {δ δ1 : List Sl}
abbrev PickN (P : Program) (w : World) (K : PySem.W.Frag) (mg : Str → Option Value) (base : Heap) : Prop := Gn P w K mg base "_law_pick" 1 (spH K cPick)
/-- _law_pick(hoard, m) -/
theorem de_pick {n : Nat} {s : S} {m : Int} {r : Addr} {hs : List D} {y : Str} {yp : Pos} (i : Nat) (N : PickN X.prog X.w X.K X.mg X.base) (g : Gx X (k + 1)) (hi : δ[i]? = some (.own r hs)) (h : DE X e δ (.int m) δ1) (hi1 : δ1[i]? = some (.own r s.ds)) (hd : Hd n s) (hn : n ≤ 100000) (m0 : 0 < m) (ml : m.natAbs.log2 < 9000 := by decide +kernel)
    (hN : X.N[i]? = some y := by rfl) (hv : Vis X.env.scope y := by first | exact Or.inl rfl | exact Or.inr (Or.inl rfl) | exact Or.inr (Or.inr rfl)) (hg : Gl X "_law_pick" := by rfl)
    (hyd : (y == ("__debug__" : Str)) = false := by decide) (hyc : (y == ("__classdict__" : Str)) = false := by decide) (hst : starEach [.Name y yp, e] X.env = (false, eval (.Name y yp) X.env) :: starEach [e] X.env := by exact st_any rfl) (hst2 : starEach [e] X.env = (false, eval e X.env) :: starEach [] X.env := by exact st_any rfl) (hpl : (backTo pos (starEach [e] X.env)).any (·.1) = false := by rfl) :
    DE X (.Call (.Name "_law_pick" p) [.Name y yp, e] [] pos) δ (.int (pick s m).1) (δ1.set i (.own r (pick s m).2.ds)) :=
  de_callHN i N g hi (da_one h hst2) hi1 ⟨n, s, m, rfl, rfl, hd, hn, m0, ml, rfl, rfl⟩ (Nat.succ_le_succ (Nat.zero_le _)) hN hv hg (by decide) hyd hyc hst hpl
end
end Kk

/-! part Sp1 -/
set_option pp.maxSteps 400
/-! the stream of the coil, and its walks -/
namespace Sp
open PySem PySem.Spec PyProof.Rows L2 Dy Bs Kk
def M45 : Int := 1427247692705959881058285969449495136382746771
def M127 : Int := 170141183460469231731687303715884105727
def M61 : Int := 2305843009213693951
def M60 : Int := 2305843009213693921
def P18 : Int := 10 ^ 18
def P60 : Int := 10 ^ 60
theorem m45_pos : 0 < M45 := by decide +kernel
theorem m127_pos : 0 < M127 := by decide +kernel
theorem m127_lt : M127 < 2 ^ 150 := by decide +kernel
def mixA (b c : Int) : Int := (b + 472882027 * c) ^ 3 % M127
def mixB (x c : Int) : Int := (x + 15485863 * c) ^ 3 % M45
def mix (b c : Int) : Int := mixB (mixA b c) c / 1048576
def pick (s : S) (m : Int) : Int × S := if 0 < s.a then (s.a % m, ⟨s.a / m, s.b, s.c⟩) else (mix s.b (s.c + 1) % m, ⟨s.a, s.b, s.c + 1⟩)
theorem pick_hd {n : Nat} {s : S} {m : Int} (h : Hd n s) (hm : 0 < m) : Hd (n + 1) (pick s m).2 ∧ 0 ≤ (pick s m).1 ∧ (pick s m).1 < m := by
  unfold pick
  by_cases ha : 0 < s.a
  · rw [if_pos ha]
    exact ⟨⟨h.b0, h.b1, h.c0, by have := h.c1; show s.c ≤ _; omega⟩, Int.emod_nonneg _ (by omega), Int.emod_lt_of_pos _ hm⟩
  · rw [if_neg ha]
    exact ⟨⟨h.b0, h.b1, by have := h.c0; show 0 ≤ s.c + 1; omega, by have := h.c1; show s.c + 1 ≤ _; omega⟩, Int.emod_nonneg _ (by omega), Int.emod_lt_of_pos _ hm⟩
theorem mix_ok {n : Nat} {b c : Int} (h0 : 0 ≤ b) (h1 : b < 2 ^ 150) (c0 : 0 ≤ c) (c1 : c ≤ n) (hn : n ≤ 1000000) (k : Int) (k0 : 0 ≤ k) (k1 : k < 2 ^ 30) : CMulW k c ∧ CPowW (b + k * c) 3 := by
  have c2 : c ≤ 1000000 := by omega
  have kc : 0 ≤ k * c := Int.mul_nonneg k0 c0
  have kc2 : k * c ≤ 2 ^ 30 * 1000000 := Int.le_trans (Int.mul_le_mul_of_nonneg_right (Int.le_of_lt k1) c0) (Int.mul_le_mul_of_nonneg_left c2 (by decide))
  refine ⟨mul_small ?_ ?_, pow_ok ?_⟩
  · have : (k.natAbs : Int) < 2 ^ 400 := by
      have : (2 : Int) ^ 30 < 2 ^ 400 := by decide +kernel
      omega
    exact_mod_cast this
  · have : (c.natAbs : Int) < 2 ^ 400 := by
      have : (1000000 : Int) < 2 ^ 400 := by decide +kernel
      omega
    exact_mod_cast this
  · have : ((b + k * c).natAbs : Int) < 2 ^ 200 := by
      have : (2 : Int) ^ 150 + 2 ^ 30 * 1000000 < 2 ^ 200 := by decide +kernel
      omega
    exact_mod_cast this
/-! the start -/
def absI (i : Int) : Int := if i < 0 then -i else i
def stepC (q : Int × Int) (c : Int) : Int × Int := (if P18 ≤ absI c then q.1 * P60 + absI c % P60 else q.1, (q.2 * 69997 + c % M60 + 37) % M61)
def foldC (ns : List Int) : Int × Int := ns.foldl stepC (0, 524287)
def coilS (ns : List Int) : S := ⟨(foldC ns).1, (foldC ns).2, 0⟩
theorem foldC_snoc {ns : List Int} {i : Nat} {c : Int} (h : ns[i]? = some c) : foldC (ns.take (i + 1)) = stepC (foldC (ns.take i)) c := by
  unfold foldC
  rw [List.take_add_one, h, List.foldl_append]
  rfl
theorem p60_lt : P60.natAbs < 2 ^ 200 := by decide +kernel
theorem p60_pos : 0 < P60 := by decide +kernel
theorem m61_pos : 0 < M61 := by decide +kernel
theorem m60_pos : 0 < M60 := by decide +kernel
theorem foldC_bd (ns : List Int) : ∀ i, i ≤ 63 → (foldC (ns.take i)).1.natAbs < 2 ^ (200 * i + 1) ∧ 0 ≤ (foldC (ns.take i)).2 ∧ (foldC (ns.take i)).2 < 2 ^ 150
  | 0, _ => ⟨by show (0 : Int).natAbs < 2 ^ 1; decide, by show (0 : Int) ≤ 524287; decide, by show (524287 : Int) < 2 ^ 150; decide +kernel⟩
  | i + 1, hi => by
    obtain ⟨a, b, c⟩ := foldC_bd ns i (by omega)
    cases h : ns[i]? with
    | none =>
      have e : ns.take (i + 1) = ns.take i := by rw [List.take_add_one, h]; simp
      rw [e]
      refine ⟨Nat.lt_trans a (Nat.pow_lt_pow_right (by decide) (by omega)), b, c⟩
    | some x =>
      rw [foldC_snoc h]
      generalize foldC (ns.take i) = q at *
      have hm : (2305843009213693951 : Int) < 2 ^ 150 := by decide +kernel
      have z0 := Int.emod_nonneg (q.2 * 69997 + x % M60 + 37) (Int.ne_of_gt m61_pos)
      have z1 := Int.emod_lt_of_pos (q.2 * 69997 + x % M60 + 37) m61_pos
      refine ⟨?_, z0, Int.lt_trans z1 (by decide +kernel)⟩
      unfold stepC
      dsimp only
      have big : (2 : Nat) ^ (200 * i + 1) * 2 ^ 200 = 2 ^ (200 * (i + 1) + 1) := by rw [← Nat.pow_add]; exact congrArg _ (by omega)
      split
      · have y0 := Int.emod_nonneg (absI x) (Int.ne_of_gt p60_pos)
        have y1 := Int.emod_lt_of_pos (absI x) p60_pos
        have m : (q.1 * P60).natAbs = q.1.natAbs * P60.natAbs := Int.natAbs_mul _ _
        have le : q.1.natAbs * P60.natAbs + P60.natAbs ≤ 2 ^ (200 * i + 1) * P60.natAbs := by
          have : (q.1.natAbs + 1) * P60.natAbs ≤ 2 ^ (200 * i + 1) * P60.natAbs := Nat.mul_le_mul_right _ a
          rw [Nat.add_mul, Nat.one_mul] at this
          exact this
        have le2 : 2 ^ (200 * i + 1) * P60.natAbs ≤ 2 ^ (200 * i + 1) * 2 ^ 200 := Nat.mul_le_mul_left _ (Nat.le_of_lt p60_lt)
        rw [big] at le2
        omega
      · exact Nat.lt_trans a (Nat.pow_lt_pow_right (by decide) (by omega))
theorem coil_hd (ns : List Int) (h : ns.length ≤ 63) : Hd 0 (coilS ns) := by
  obtain ⟨a, b, c⟩ := foldC_bd ns ns.length h
  rw [List.take_length] at b c
  exact ⟨b, c, Int.le_refl _, Int.le_refl _⟩
section
variable {X : Cx} {a : Expr} {p pos : Pos} {δ δ1 : List Sl} {i : Int}
theorem de_abs (hm : X.mg "abs" = none) (h : DE X a δ (.int i) δ1) (hg : Gl X "abs" := by rfl) (he : starEach [a] X.env = (false, eval a X.env) :: starEach [] X.env := by exact st_any rfl) (hpl : (backTo pos (starEach [] X.env)).any (·.1) = false := by rfl) : DE X (.Call (.Name "abs" p) [a] [] pos) δ (.int (absI i)) δ1 :=
  de_b1 call_abs hm PyProof.Rows.boot_abs h (fun v H Q R e iv kz => by
    cases iv
    exact ⟨i, rfl, kz _ fun _ => .int _⟩) hg (by decide) (by decide) he hpl
end
section
variable {P : Program} {w : World} {K : PySem.W.Frag} {mg : Str → Option Value} {base : Heap} {f f2 f3 f4 : Addr} {fd fd2 fd3 fd4 : FuncData}
theorem cut63 {ds : List D} (h : ds.length ≤ 63) : Dy.cutD ds none (some 63) = ds := by
  unfold Dy.cutD
  have e : (63 : Int) = ((63 : Nat) : Int) := rfl
  rw [HT.sIx_none, e, HT.sIx_nat, List.drop_zero, Nat.sub_zero, List.take_of_length_le (by omega)]
abbrev nCoil : List Str := ["_law_script", "_law_digits", "_law_seed", "_law_cell"]
theorem c_sc1 : FnScope nCoil ["_law_script"] (defScope sSpring) := ⟨rfl, rfl, rfl, by decide +kernel, rfl, by decide +kernel, by decide +kernel⟩
abbrev cCoil : List D → List D → Prop := fun ds es => ∃ ns : List Int, ds = [.rol (ns.map D.int)] ∧ ns.length ≤ 63 ∧ es = (coilS ns).ds
theorem law_coil (F : Df K mg "_law_spring" sSpring f fd) (hA : mg "abs" = none) : FnG P w K mg base CX0 1 f (spO K cCoil) := by
  refine fn_new F.fn c_sc1 (F.fn.binds fun _ _ _ _ _ _ us hl => match us, hl with | [_], _ => rfl) (by rintro ds d ⟨ns, rfl, _⟩; rfl) (by decide) fun cdv A outer s H E ds es g ⟨ns, e, hn, e'⟩ => ?_
  subst e e'
  have nd := c_sc1.nd
  have ps : (Builtin.Int.intBits 10 : Int) * (18 : Nat) ≤ 2 ^ 27 := by decide +kernel
  have ps2 : (Builtin.Int.intBits 10 : Int) * (60 : Nat) ≤ 2 ^ 27 := by decide +kernel
  refine dss_cons (ds_asg (d := .tup [.int 0, .int 524287]) (de_tup (da_cons de_int (da_one de_int)) (by exact (by decide : 2 ≤ sizeLine))) (dg_tup (dgs_cons (dg_name 1) (dgs_cons (dg_name 2) dgs_nil))) ?_)
  refine dss_cons (ds_for (di_list (items := ns.map D.int) (DO.de (do_isQ (do_slR (l := none) (h := some 63) (de_v 0) dp_none (dp_some de_int)) (cut63 (by rw [List.length_map]; exact hn)))))
    (fun i δ => ∃ s3, δ = [.dat (.rol (ns.map D.int)), .dat (.int (foldC (ns.take i)).1), .dat (.int (foldC (ns.take i)).2), s3]) ⟨_, rfl⟩ ?_ ?_)
  · rintro i d δ2 hi ⟨s3, rfl⟩
    rw [List.getElem?_map] at hi
    obtain ⟨c, hget, rfl⟩ := Option.map_eq_some_iff.mp hi
    have hil := (List.getElem?_eq_some_iff.mp hget).1
    obtain ⟨b1, b2, b3⟩ := foldC_bd ns i (by omega)
    rw [foldC_snoc hget]
    generalize foldC (ns.take i) = q at *
    have cm1 : CMulW q.1 P60 := by
      have a := log_small b1 (by omega)
      have b := log_small p60_lt (by decide)
      unfold CMulW
      omega
    have cm2 : CMulW q.2 69997 := mul_small (by
      have : (q.2.natAbs : Int) < 2 ^ 400 := by
        have : (2 : Int) ^ 150 < 2 ^ 400 := by decide +kernel
        omega
      exact_mod_cast this) (by decide +kernel)
    refine ⟨[3], _, dg_name 3, ?_⟩
    refine dss_cons (ds_if (m := decide (P18 ≤ absI c)) (dt_ge (de_abs hA (de_v 3)) (de_p10 (n := 18) ps)) (fun h => ?_) (fun h => ?_))
    · have e1 : (stepC q c).1 = q.1 * P60 + absI c % P60 := if_pos (of_decide_eq_true h)
      exact dss_cons (ds_set 1 (d := .int (q.1 * P60 + absI c % P60)) (de_add (de_mul cm1 (de_v 1) (de_p10 (n := 60) ps2)) (de_mod p60_pos (de_abs hA (de_v 3)) (de_p10 (n := 60) ps2))) (dss_nil (dss_cons (ds_set (d := .int (stepC q c).2) 2 (de_mod m61_pos (de_add (de_add (de_mul cm2 (de_v 2) de_int) (de_mod m60_pos (de_v 3) de_int)) de_int) de_int) (dss_nil ⟨_, by rw [e1]; rfl⟩)))))
    · have e1 : (stepC q c).1 = q.1 := if_neg (of_decide_eq_false h)
      exact dss_nil (dss_cons (ds_set (d := .int (stepC q c).2) 2 (de_mod m61_pos (de_add (de_add (de_mul cm2 (de_v 2) de_int) (de_mod m60_pos (de_v 3) de_int)) de_int) de_int) (dss_nil ⟨_, by rw [e1]; rfl⟩)))
  · rintro δ2 ⟨s3, rfl⟩
    rw [List.length_map, List.take_length]
    exact dss_cons (ds_retO (do_lst (da_cons (de_v 1) (da_cons (de_v 2) (da_cons de_int da_nil))) (by exact (by decide : 3 ≤ sizeLine))) rfl)
/-! one draw -/
theorem c_sc2 : FnScope ["_law_spring_here", "_law_many", "_law_found", "_law_blend"] ["_law_spring_here", "_law_many"] (defScope sDraw) := ⟨rfl, rfl, rfl, by decide +kernel, rfl, by decide +kernel, by decide +kernel⟩
abbrev cPick : List D → List D → D → List D → Prop := fun hs ds d hs' => ∃ (n : Nat) (s : S) (m : Int), hs = s.ds ∧ ds = [.int m] ∧ Hd n s ∧ n ≤ 100000 ∧ 0 < m ∧ m.natAbs.log2 < 9000 ∧ d = .int (pick s m).1 ∧ hs' = (pick s m).2.ds
theorem law_pick (F : Df K mg "_law_draw" sDraw f fd) : FnG P w K mg base CX0 1 f (spH K cPick) := by
  refine fn_hoard F.fn c_sc2 (F.fn.binds fun _ _ _ _ _ _ us hl => match us, hl with | [_, _], _ => rfl) (by rintro hs ds d hs' ⟨n, s, m, rfl, rfl, _⟩; rfl) (by decide) fun cdv A outer s0 H E p hs ds d hs' g ⟨n, s, m, e1, e2, hd, hn, m0, m1, e3, e4⟩ => ?_
  subst e1 e2 e3 e4
  have nd := c_sc2.nd
  obtain ⟨z1, z2⟩ := mix_ok (n := n + 1) hd.b0 hd.b1 (c := s.c + 1) (by have := hd.c0; omega) (by have := hd.c1; omega) (by omega) 472882027 (by decide) (by decide +kernel)
  have y0 : 0 ≤ mixA s.b (s.c + 1) := Int.emod_nonneg _ (Int.ne_of_gt m127_pos)
  have y1 : mixA s.b (s.c + 1) < 2 ^ 150 := Int.lt_trans (Int.emod_lt_of_pos _ m127_pos) m127_lt
  obtain ⟨z3, z4⟩ := mix_ok (n := n + 1) y0 y1 (c := s.c + 1) (by have := hd.c0; omega) (by have := hd.c1; omega) (by omega) 15485863 (by decide) (by decide +kernel)
  refine dss_cons (ds_if (dt_gt (de_ixO 0 rfl de_int rfl rfl) de_int) (fun h => ?_) (fun h => ?_))
  · have hp := of_decide_eq_true h
    have e : pick s m = (s.a % m, ⟨s.a / m, s.b, s.c⟩) := if_pos hp
    rw [e]
    exact dss_cons (ds_set 2 (de_mod m0 (de_ixO 0 rfl de_int rfl rfl) (de_v 1)) (dss_cons (ds_setI 0 (de_fdiv ⟨m0, m1⟩ (de_ixO 0 rfl de_int rfl rfl) (de_v 1)) rfl de_int rfl rfl (dss_cons (ds_ret (de_v 2) ⟨rfl, rfl⟩)))))
  · have hp := of_decide_eq_false h
    have e : pick s m = (mix s.b (s.c + 1) % m, ⟨s.a, s.b, s.c + 1⟩) := if_neg hp
    rw [e]
    refine dss_nil (dss_cons (ds_setI 0 (de_add (de_ixO 0 rfl de_int rfl rfl) de_int) rfl de_int rfl rfl (dss_cons (ds_set 3 (d := .int (mixA s.b (s.c + 1))) (de_mod m127_pos (de_pow z2 (de_add (de_ixO 0 rfl de_int rfl rfl) (de_mul z1 de_int (de_ixO 0 rfl de_int rfl rfl))) de_int) de_int) (dss_cons (ds_set 3 (d := .int (mixB (mixA s.b (s.c + 1)) (s.c + 1))) (de_mod m45_pos (de_pow z4 (de_add (de_v 3) (de_mul z3 de_int (de_ixO 0 rfl de_int rfl rfl))) de_int) de_int) (dss_cons (ds_ret (de_mod m0 (de_fdiv ?_ (de_v 3) de_int) (de_v 1)) ⟨rfl, rfl⟩))))))))
    · exact ⟨by decide, by decide +kernel⟩
abbrev PickN (P : Program) (w : World) (K : PySem.W.Frag) (mg : Str → Option Value) (base : Heap) : Prop := Gn P w K mg base "_law_draw" 1 (spH K cPick)
end
section
variable {X : Cx} {k : Nat} {e : Expr} {p pos : Pos} {δ δ1 : List Sl}
/-- _law_draw(coil, m) -/
theorem de_pick {n : Nat} {s : S} {m : Int} {r : Addr} {hs : List D} {y : Str} {yp : Pos} (i : Nat) (N : PickN X.prog X.w X.K X.mg X.base) (g : Gx X (k + 1)) (hi : δ[i]? = some (.own r hs)) (h : DE X e δ (.int m) δ1) (hi1 : δ1[i]? = some (.own r s.ds)) (hd : Hd n s) (hn : n ≤ 100000) (m0 : 0 < m) (ml : m.natAbs.log2 < 9000 := by decide +kernel)
    (hN : X.N[i]? = some y := by rfl) (hv : Vis X.env.scope y := by first | exact Or.inl rfl | exact Or.inr (Or.inl rfl) | exact Or.inr (Or.inr rfl)) (hg : Gl X "_law_draw" := by rfl)
    (hyd : (y == ("__debug__" : Str)) = false := by decide) (hyc : (y == ("__classdict__" : Str)) = false := by decide) (hst : starEach [.Name y yp, e] X.env = (false, eval (.Name y yp) X.env) :: starEach [e] X.env := by exact st_any rfl) (hst2 : starEach [e] X.env = (false, eval e X.env) :: starEach [] X.env := by exact st_any rfl) (hpl : (backTo pos (starEach [e] X.env)).any (·.1) = false := by rfl) :
    DE X (.Call (.Name "_law_draw" p) [.Name y yp, e] [] pos) δ (.int (pick s m).1) (δ1.set i (.own r (pick s m).2.ds)) :=
  de_callHN i N g hi (da_one h hst2) hi1 ⟨n, s, m, rfl, rfl, hd, hn, m0, ml, rfl, rfl⟩ (Nat.succ_le_succ (Nat.zero_le _)) hN hv hg (by decide) hyd hyc hst hpl
end
end Sp

/-! part Gw1 -/
set_option pp.maxSteps 400
namespace Gr
open PySem PySem.Spec PyProof.Rows L2 Dy Kk
abbrev eD (x : Ed) : D := .tup [.int x.b, .int x.e, .str x.w]
abbrev nD (n : Nat) : D := .int n
abbrev nsD (ns : List Nat) : D := .lst (ns.map nD)
abbrev esD (es : List Ed) : D := .lst (es.map eD)
inductive Wy where
  | stay | enter | leave | round
def Wy.s : Wy → Str
  | .stay => "stay"
  | .enter => "enter"
  | .leave => "leave"
  | .round => "round"
def Wy.fits : Wy → Nat → Nat → Bool
  | .stay, a, b => decide (a = b)
  | .enter, a, b => decide (b = a + 1)
  | .leave, a, b => decide (b + 1 = a)
  | .round, a, b => decide (a = b) && decide (2 ≤ b)
/-- an edge of depths -/
structure EdOk (ds : List Nat) (x : Ed) : Prop where
  b : x.b < ds.length
  e : x.e < ds.length
  f : ∃ y : Wy, x.w = y.s ∧ y.fits (dp ds x.b) (dp ds x.e) = true
structure Net (ds : List Nat) (es : List Ed) : Prop where
  n1 : 1 ≤ ds.length
  n2 : ds.length ≤ 24
  m : es.length ≤ 60
  d : ∀ d ∈ ds, 1 ≤ d ∧ d ≤ 3
  x : ∀ x ∈ es, EdOk ds x
theorem Net.ok {ds : List Nat} {es : List Ed} (h : Net ds es) : NetOk ds es := ⟨h.n1, h.n2, h.m, h.d, fun x hx => (h.x x hx).b, fun x hx => (h.x x hx).e⟩
theorem de_globI2 {X : Cx} {δ : List Sl} {pos : Pos} {x : Str} {i : Int} (hm : ∃ tk, X.mg x = some (.int i tk)) (hg : Gl X x := by rfl) (hd : (x == ("__debug__" : Str)) = false := by decide) : DE X (.Name x pos) δ (.int i) δ := fun F R H σ Q s k => by
  obtain ⟨tk, hm⟩ := hm
  exact (pe_glob (v := .int i) hg hm ⟨tk, rfl⟩ hd).w (k _ R H (Tr.refl _ _) s (.int i))
section
variable {X : Cx} {a b c : Expr} {δ δ1 δ2 : List Sl} {pos : Pos}
theorem de_chain11 {l m n : Int} (ha : DE X a δ (.int l) δ1) (hb : DE X b δ1 (.int m) δ2) (hc : DE X c δ2 (.int n) δ2) (hm : behindInMarks .LtE b = false := by rfl) (hm' : behindInMarks .LtE c = false := by rfl) (hl : lastMarks [.LtE, .LtE] [b, c] = false := by with_unfolding_all rfl) :
    DE X (.Compare a [.LtE, .LtE] [b, c] pos) δ (.bl (decide (l ≤ m) && decide (m ≤ n))) δ2 := de_chain (g := fun i j => decide (i ≤ j)) (g' := fun i j => decide (i ≤ j)) op_le op_le hm hm' ha hb hc (pe_chain op_le op_le peW peW peW hl)
theorem dt_chain11 {l m n : Int} (ha : DE X a δ (.int l) δ1) (hb : DE X b δ1 (.int m) δ2) (hc : DE X c δ2 (.int n) δ2) (hl : lastMarks [.LtE, .LtE] [b, c] = false := by with_unfolding_all rfl) :
    DT X (.Compare a [.LtE, .LtE] [b, c] pos) δ (decide (l ≤ m) && decide (m ≤ n)) δ2 := dt_chain (g := fun i j => decide (i ≤ j)) (g' := fun i j => decide (i ≤ j)) ha hb hc (pt_chain op_le op_le peW peW peW hl)
/-- a == b >= c -/
theorem de_chainEG {l m n : Int} (ha : DE X a δ (.int l) δ1) (hb : DE X b δ1 (.int m) δ2) (hc : DE X c δ2 (.int n) δ2) (hm : lastMarks [.Eq, .GtE] [b, c] = false := by with_unfolding_all rfl) :
    DE X (.Compare a [.Eq, .GtE] [b, c] pos) δ (.bl (decide (l = m) && decide (n ≤ m))) δ2 := fun F R H σ Q s k =>
  (pe_chain op_eq op_ge peW peW peW hm).w (ha F R H σ _ s fun x R1 H1 t1 s1 ix => hb F R1 H1 σ _ s1 fun y R2 H2 t2 s2 iy => by
    cases ix
    cases iy
    have e1 : decide (V.int l = V.int m) = decide (l = m) := by
      by_cases h : l = m
      · rw [h, decide_eq_true rfl, decide_eq_true rfl]
      · rw [decide_eq_false h, decide_eq_false fun z => h (V.int.inj z)]
    refine ⟨rfl, decide (V.int l = V.int m), rfl, ?_⟩
    rw [e1]
    by_cases h : l = m
    · rw [decide_eq_true h, if_pos rfl]
      refine hc F R2 H2 σ _ s2 fun z R3 H3 t3 s3 iz => ?_
      cases iz
      have e := k (.bl (decide (l = m) && decide (n ≤ m))) R3 H3 ((t1.trans t2).trans t3) s3 (.bl _)
      rw [decide_eq_true h, Bool.true_and] at e
      exact ⟨m, n, rfl, rfl, e⟩
    · rw [decide_eq_false h, if_neg Bool.false_ne_true]
      have e := k (.bl (decide (l = m) && decide (n ≤ m))) R2 H2 (t1.trans t2) s2 (.bl _)
      rw [decide_eq_false h, Bool.false_and] at e
      exact e)
end
section
variable {P : Program} {w : World} {K : PySem.W.Frag} {mg : Str → Option Value} {base : Heap} {f : Addr} {fd : FuncData}
abbrev cIsNum : List D → D → Prop := fun ds d => ∃ v lo hi : Int, ds = [.int v, .int lo, .int hi] ∧ d = .bl (decide (lo ≤ v) && decide (v ≤ hi))
theorem h_sc1 : FnScope ["value", "low", "high"] ["value", "low", "high"] (defScope sIsNum) := ⟨rfl, rfl, rfl, by decide +kernel, rfl, by decide +kernel, by decide +kernel⟩
theorem is_number (F : Df K mg "is_number" sIsNum f fd) (T : Txt mg) : FnG P w K mg base CX0 1 f (spP K cIsNum) := by
  refine fn_pure F.fn h_sc1 (F.fn.binds fun _ _ _ _ _ _ us hl => match us, hl with | [_, _, _], _ => rfl) (by rintro ds d ⟨_, _, _, rfl, _⟩; rfl) (by decide) fun cdv A outer s H E ds d g ⟨v, lo, hi, e, e'⟩ => ?_
  subst e e'
  exact dss_cons (ds_ret (de_andT (de_isi T.isinstance T.int "int" PyProof.Rows.boot_int (de_v 0) rfl kit_int_int) (de_andT (de_is (de_not (de_isi T.isinstance T.bool "bool" PyProof.Rows.boot_bool (de_v 0) rfl kit_int_bool)) rfl) (de_one (de_chain11 (de_v 1) (de_v 0) (de_v 2))))) rfl)
abbrev cFits : List D → D → Prop := fun ds d => ∃ (y : Wy) (a b : Nat), ds = [.str y.s, nD a, nD b] ∧ d = .bl (y.fits a b)
theorem h_sc2 : FnScope ["way", "depth", "next_depth"] ["way", "depth", "next_depth"] (defScope sFits) := ⟨rfl, rfl, rfl, by decide +kernel, rfl, by decide +kernel, by decide +kernel⟩
theorem fits (F : Df K mg "fits" sFits f fd) : FnG P w K mg base CX0 1 f (spP K cFits) := by
  refine fn_pure F.fn h_sc2 (F.fn.binds fun _ _ _ _ _ _ us hl => match us, hl with | [_, _, _], _ => rfl) (by rintro ds d ⟨_, _, _, rfl, _⟩; rfl) (by decide) fun cdv A outer s H E ds d g ⟨y, a, b, e, e'⟩ => ?_
  subst e e'
  cases y with
  | stay => exact dss_cons (ds_match (d := .str "stay") (de_v 0) (dm_str (n := 2) (d := .str "stay") (m := true) g (by decide +kernel) (by decide +kernel) (by decide +kernel) (fun _ => dss_cons (ds_ret (de_is (de_eqi (de_v 1) (de_v 2)) (congrArg D.bl (by show decide ((a : Int) = b) = decide (a = b); rw [decide_eq_decide]; omega))) rfl)) (fun h => by cases h)))
  | enter => exact dss_cons (ds_match (d := .str "enter") (de_v 0) (dm_str (n := 2) (d := .str "enter") (m := false) g (by decide +kernel) (by decide +kernel) (by decide +kernel) (fun h => by cases h) (fun _ => dm_str (n := 2) (d := .str "enter") (m := true) g (by decide +kernel) (by decide +kernel) (by decide +kernel) (fun _ => dss_cons (ds_ret (de_is (de_eqi (de_v 2) (de_add (de_v 1) de_int)) (congrArg D.bl (by show decide ((b : Int) = a + 1) = decide (b = a + 1); rw [decide_eq_decide]; omega))) rfl)) (fun h => by cases h))))
  | leave => exact dss_cons (ds_match (d := .str "leave") (de_v 0) (dm_str (n := 2) (d := .str "leave") (m := false) g (by decide +kernel) (by decide +kernel) (by decide +kernel) (fun h => by cases h) (fun _ => dm_str (n := 2) (d := .str "leave") (m := false) g (by decide +kernel) (by decide +kernel) (by decide +kernel) (fun h => by cases h) (fun _ => dm_str (n := 2) (d := .str "leave") (m := true) g (by decide +kernel) (by decide +kernel) (by decide +kernel) (fun _ => dss_cons (ds_ret (de_is (de_eqi (de_v 2) (de_sub (de_v 1) de_int)) (congrArg D.bl (by show decide ((b : Int) = a - 1) = decide (b + 1 = a); rw [decide_eq_decide]; omega))) rfl)) (fun h => by cases h)))))
  | round => exact dss_cons (ds_match (d := .str "round") (de_v 0) (dm_str (n := 2) (d := .str "round") (m := false) g (by decide +kernel) (by decide +kernel) (by decide +kernel) (fun h => by cases h) (fun _ => dm_str (n := 2) (d := .str "round") (m := false) g (by decide +kernel) (by decide +kernel) (by decide +kernel) (fun h => by cases h) (fun _ => dm_str (n := 2) (d := .str "round") (m := false) g (by decide +kernel) (by decide +kernel) (by decide +kernel) (fun h => by cases h) (fun _ => dm_str (n := 2) (d := .str "round") (m := true) g (by decide +kernel) (by decide +kernel) (by decide +kernel) (fun _ => dss_cons (ds_ret (de_is (de_chainEG (de_v 1) (de_v 2) de_int) (congrArg D.bl (by show (decide ((a : Int) = b) && decide ((2 : Int) ≤ b)) = (decide (a = b) && decide (2 ≤ b)); congr 1 <;> (rw [decide_eq_decide]; omega)))) rfl)) (fun h => by cases h))))))
end
end Gr

/-! part Gw2 -/
set_option pp.maxSteps 400
namespace Gr
open PySem PySem.Spec PyProof.Rows L2 Dy Kk
theorem all_true {α : Type} (l : List α) : (l.map fun _ => true).all id = true := by simp
theorem dp_get {ds : List Nat} {i : Nat} (h : i < ds.length) : (ds.map nD)[i]? = some (nD (dp ds i)) := by
  rw [List.getElem?_map, List.getElem?_eq_getElem h]
  show some (nD ds[i]) = some (nD (ds.getD i 0))
  rw [List.getD_eq_getElem?_getD, List.getElem?_eq_getElem h, Option.getD_some]
section
variable {P : Program} {w : World} {K : PySem.W.Frag} {mg : Str → Option Value} {base : Heap} {f : Addr} {fd : FuncData}
theorem h_sc3 : FnScope ["depths", "value", "place"] ["depths", "value"] (defScope sIsEdge) := ⟨rfl, rfl, rfl, by decide +kernel, rfl, by decide +kernel, by decide +kernel⟩
abbrev cIsEdge : List D → D → Prop := fun ds d => ∃ (dd : List Nat) (x : Ed), ds = [nsD dd, eD x] ∧ EdOk dd x ∧ d = .bl true
theorem is_edge (F : Df K mg "is_edge" sIsEdge f fd) (T : Txt mg) (hS : mg "str" = none) (G1 : Gn P w K mg base "is_number" 1 (spP K cIsNum)) (G2 : Gn P w K mg base "fits" 1 (spP K cFits)) : FnG P w K mg base CX0 2 f (spP K cIsEdge) := by
  refine fn_pure F.fn h_sc3 (F.fn.binds fun _ _ _ _ _ _ us hl => match us, hl with | [_, _], _ => rfl) (by rintro ds d ⟨_, _, rfl, _⟩; rfl) (by decide) fun cdv A outer s H E ds d g ⟨dd, x, e, hx, e'⟩ => ?_
  subst e e'
  have nd := h_sc3.nd
  obtain ⟨y, hw, hf⟩ := hx.f
  have hb := hx.b
  have he := hx.e
  refine dss_cons (ds_if (m := false) (dt_is (dt_or3 (dt_not (dt_val (de_isi T.isinstance T.tuple "tuple" PyProof.Rows.boot_tuple (de_v 1) rfl kit_tup_tup))) (fun _ => dt_is (dt_nei (de_lenT (ds := [nD x.b, nD x.e, .str x.w]) T.len (de_v 1)) de_int) (n := false) rfl)
    fun _ _ => dt_not (dt_val (de_isi T.isinstance hS "str" PyProof.Rows.boot_str (de_ixT (ds := [nD x.b, nD x.e, .str x.w]) (d := .str x.w) (de_v 1) de_int rfl) rfl kit_str_str))) rfl) (fun h => by cases h) (fun _ => dss_nil ?_))
  refine dss_cons (ds_if (m := false) (dt_is (dt_not (dt_val (de_all (bs := [x.b, x.e].map fun _ => true) T.all (de_is (DO.de (do_lcMap (items := [x.b, x.e].map nD) (own := [("place", 2)]) (fun _ => .bl true) (blkOk_by (N := ["depths", "value", "place"]) (sc := defScope sIsEdge) (own := [("place", 2)]) (by kernel_rfl)) (di_tup (de_is (de_slT (l := none) (h := some 2) (de_v 1) dp_none (dp_some de_int)) rfl)) rfl ?_ (by exact (by decide : 2 ≤ 1000000)))) (by rw [List.map_map, List.map_map]; rfl))))) rfl) (fun h => by cases h) (fun _ => dss_nil ?_))
  · intro d hd
    obtain ⟨i, hi, rfl⟩ := List.mem_map.mp hd
    have hl : i < dd.length := by
      rcases List.mem_cons.mp hi with rfl | hi
      · exact hb
      · rw [List.mem_singleton.mp hi]
        exact he
    exact ⟨[2], _, _, by simp, fun _ _ _ _ _ => dg_name 2, fun _ _ _ _ _ => de_callN (k' := 1) G1 ⟨g.rm, g.gd⟩ (da_cons (de_v 2) (da_cons de_int (da_one (de_sub (de_lenL T.len (de_v 0)) de_int)))) ⟨i, 0, _, rfl, by
      rw [List.length_map, decide_eq_true (by omega), decide_eq_true (by omega)]
      rfl⟩, rfl⟩
  · exact dss_cons (ds_ret (de_callN G2 g (da_cons (de_ixT (ds := [nD x.b, nD x.e, .str x.w]) (de_v 1) de_int rfl) (da_cons (de_ixL (de_v 0) (de_ixT (ds := [nD x.b, nD x.e, .str x.w]) (d := nD x.b) (de_v 1) de_int rfl) (L2.atI_nat (dp_get hb))) (da_one (de_ixL (de_v 0) (de_ixT (ds := [nD x.b, nD x.e, .str x.w]) (d := nD x.e) (de_v 1) de_int rfl) (L2.atI_nat (dp_get he)))))) ⟨y, _, _, by rw [hw], by rw [hf]⟩) rfl)
/-- the numbers at the top -/
structure Most (mg : Str → Option Value) : Prop where
  p : ∃ tk, mg "MOST_PLACES" = some (.int 24 tk)
  e : ∃ tk, mg "MOST_EDGES" = some (.int 60 tk)
  d : ∃ tk, mg "MOST_DEPTH" = some (.int 3 tk)
theorem h_sc4 : FnScope ["depths", "edges", "depth", "edge"] ["depths", "edges"] (defScope sIsNet) := ⟨rfl, rfl, rfl, by decide +kernel, rfl, by decide +kernel, by decide +kernel⟩
abbrev cIsNet : List D → D → Prop := fun ds d => ∃ (dd : List Nat) (es : List Ed), ds = [nsD dd, esD es] ∧ Net dd es ∧ d = .bl true
theorem is_network (F : Df K mg "is_network" sIsNet f fd) (T : Txt mg) (M : Most mg) (G1 : Gn P w K mg base "is_number" 1 (spP K cIsNum)) (G2 : Gn P w K mg base "is_edge" 2 (spP K cIsEdge)) : FnG P w K mg base CX0 3 f (spP K cIsNet) := by
  refine fn_pure F.fn h_sc4 (F.fn.binds fun _ _ _ _ _ _ us hl => match us, hl with | [_, _], _ => rfl) (by rintro ds d ⟨_, _, rfl, _⟩; rfl) (by decide) fun cdv A outer s H E ds d g ⟨dd, es, e, hx, e'⟩ => ?_
  subst e e'
  have nd := h_sc4.nd
  have h1 := hx.n1
  have h2 := hx.n2
  have h3 := hx.m
  refine dss_cons (ds_if (m := false) (dt_is (dt_or (dt_not (dt_val (de_isi T.isinstance T.list "list" PyProof.Rows.boot_list (de_v 0) rfl kit_lst_lst))) fun _ => dt_not (dt_chain11 de_int (de_lenL T.len (de_v 0)) (de_globI2 M.p))) (by
    rw [List.length_map, decide_eq_true (by omega), decide_eq_true (by omega)]; rfl)) (fun h => by cases h) (fun _ => dss_nil ?_))
  refine dss_cons (ds_if (m := false) (dt_is (dt_not (dt_val (de_all (bs := dd.map fun _ => true) T.all (de_is (DO.de (do_lcMap (own := [("depth", 2)]) (fun _ => .bl true) (blkOk_by (N := ["depths", "edges", "depth", "edge"]) (sc := defScope sIsNet) (own := [("depth", 2)]) (by kernel_rfl)) (di_list (de_v 0)) rfl ?_ ?_)) ?_)))) (by rw [all_true]; rfl)) (fun h => by cases h) (fun _ => dss_nil ?_))
  · intro d hd
    obtain ⟨i, hi, rfl⟩ := List.mem_map.mp hd
    have hl := hx.d i hi
    exact ⟨[2], _, _, by simp, fun _ _ _ _ _ => dg_name 2, fun _ _ _ _ _ => de_callN (k' := 2) G1 ⟨g.rm, g.gd⟩ (da_cons (de_v 2) (da_cons de_int (da_one (de_globI2 M.d)))) ⟨i, 1, 3, rfl, by
      rw [decide_eq_true (by omega), decide_eq_true (by omega)]
      rfl⟩, rfl⟩
  · rw [List.length_map]; omega
  · rw [List.map_map, List.map_map]
    rfl
  refine dss_cons (ds_if (m := false) (dt_is (dt_or (dt_not (dt_val (de_isi T.isinstance T.list "list" PyProof.Rows.boot_list (de_v 1) rfl kit_lst_lst))) fun _ => dt_gt (de_lenL T.len (de_v 1)) (de_globI2 M.e)) (by
    rw [List.length_map]; exact decide_eq_false (by omega))) (fun h => by cases h) (fun _ => dss_nil ?_))
  refine dss_cons (ds_ret (de_is (de_all (bs := es.map fun _ => true) T.all (de_is (DO.de (do_lcMap (own := [("edge", 3)]) (fun _ => .bl true) (blkOk_by (N := ["depths", "edges", "depth", "edge"]) (sc := defScope sIsNet) (own := [("edge", 3)]) (by kernel_rfl)) (di_list (de_v 1)) rfl ?_ ?_)) ?_)) (by rw [all_true])) rfl)
  · intro d hd
    obtain ⟨i, hi, rfl⟩ := List.mem_map.mp hd
    exact ⟨[3], _, _, by simp, fun _ _ _ _ _ => dg_name 3, fun _ _ _ _ _ => de_callN (k' := 2) G2 ⟨g.rm, g.gd⟩ (da_cons (de_v 0) (da_one (de_v 3))) ⟨dd, i, rfl, hx.x i hi, rfl⟩, rfl⟩
  · rw [List.length_map]; omega
  · rw [List.map_map, List.map_map]
    rfl
theorem h_sc5 : FnScope ["depths", "edges"] ["depths", "edges"] (defScope sReqNet) := ⟨rfl, rfl, rfl, by decide +kernel, rfl, by decide +kernel, by decide +kernel⟩
abbrev cReqNet : List D → D → Prop := fun ds d => ∃ (dd : List Nat) (es : List Ed), ds = [nsD dd, esD es] ∧ Net dd es ∧ d = .non
theorem require_network (F : Df K mg "require_network" sReqNet f fd) (G : Gn P w K mg base "is_network" 3 (spP K cIsNet)) : FnG P w K mg base CX0 4 f (spP K cReqNet) := by
  refine fn_pure F.fn h_sc5 (F.fn.binds fun _ _ _ _ _ _ us hl => match us, hl with | [_, _], _ => rfl) (by rintro ds d ⟨_, _, rfl, _⟩; rfl) (by decide) fun cdv A outer s H E ds d g ⟨dd, es, e, hx, e'⟩ => ?_
  subst e e'
  have nd := h_sc5.nd
  exact dss_cons (ds_if (m := false) (dt_is (dt_not (dt_val (de_callN G g (da_cons (de_v 0) (da_one (de_v 1))) ⟨dd, es, rfl, hx, rfl⟩))) rfl) (fun h => by cases h) (fun _ => dss_nil (dss_nil rfl)))
end
end Gr

/-! part Gw3 -/
set_option pp.maxSteps 400
namespace Gr
open PySem PySem.Spec PyProof.Rows L2 Dy Kk
/-- e not in an own list of ints -/
theorem dt_notInOw {X : Cx} {a : Expr} {δ δ1 : List Sl} {r : Addr} {m : Nat} {ns : List Nat} {x : Str} {p pos : Pos} (i : Nat) (ha : DE X a δ (nD m) δ1) (hi : δ1[i]? = some (.own r (ns.map nD))) (hN : X.N[i]? = some x := by rfl)
    (hv : Vis X.env.scope x := by first | exact Or.inl rfl | exact Or.inr (Or.inl rfl) | exact Or.inr (Or.inr rfl)) (hxd : (x == ("__debug__" : Str)) = false := by decide) (hxc : (x == ("__classdict__" : Str)) = false := by decide)
    (hm : behindInMarks .NotIn (.Name x p) = false := by rfl) : DT X (.Compare a [.NotIn] [.Name x p] pos) δ (!decide (m ∈ ns)) δ1 := fun F R H σ Q s k =>
  (pt_cmpR op_notIn_seq peW (pe_var hN hv hxd hxc) hm).w (ha F R H σ _ s fun v R1 H1 t1 s1 i1 => by
    cases i1
    obtain ⟨z1, z2, z3, xs, z4, ia⟩ := s1.at_ i _ hi
    have e1 : xs = ns.map fun n : Nat => V.int n := by
      have z : IsA X.K R1 xs ((ns.map fun n : Nat => (n : Int)).map D.int) := by
        rw [List.map_map]
        exact ia
      rw [z.ints, List.map_map]
      rfl
    refine ⟨.ref r, z1, r, xs, rfl, .inl (SqL.of z4), rfl, ?_, ?_⟩
    · rw [e1, List.all_map]
      simp [flatV]
    · have e2 : inV (V.int m) xs = decide (m ∈ ns) := by
        rw [e1]
        unfold inV
        rw [List.any_map, Bool.eq_iff_iff, List.any_eq_true, decide_eq_true_eq]
        constructor
        · rintro ⟨n, hn, e⟩
          have e' : ((n : Int) == (m : Int)) = true := e
          rw [beq_iff_eq] at e'
          rw [show m = n by omega]
          exact hn
        · intro h
          exact ⟨m, h, show ((m : Int) == (m : Int)) = true by rw [beq_iff_eq]⟩
      rw [if_pos rfl, e2]
      exact ⟨_, rfl, k R1 H1 t1 s1⟩)
abbrev wD (x : Nat × List Nat) : D := .tup [nD x.1, nsD x.2]
def optD : Option (List Nat) → D
  | none => .non
  | some c => nsD c
theorem nodup_sub : ∀ {m l : List Nat}, l.Nodup → (∀ x ∈ l, x ∈ m) → l.length ≤ m.length
  | [], [], _, _ => Nat.le_refl _
  | [], x :: l, _, h => by simpa using h x (List.mem_cons_self ..)
  | a :: m, l, hd, h => by
    have h1 : (l.erase a).length ≤ m.length := nodup_sub (hd.erase a) fun x hx => by
      have h2 := (List.Nodup.mem_erase_iff hd).mp hx
      rcases List.mem_cons.mp (h x h2.2) with z | z
      · exact absurd z h2.1
      · exact z
    have h3 := @List.length_erase _ _ _ a l
    rw [List.length_cons]
    split at h3 <;> omega
theorem EnOk.len {es : List Ed} {al : List Nat} {pl : Nat} {S : List Nat} {x : Nat × List Nat} (h : EnOk es al pl S x) : x.2.length ≤ S.length := by
  have z := nodup_sub (m := pl :: S) h.nd fun v hv => List.mem_cons.mpr (h.mem v hv)
  rw [List.length_append, List.length_map, List.length_cons, List.length_cons, List.length_nil] at z
  omega
abbrev nCT : List Str := ["edges", "allowed", "place", "waiting", "seen", "spot", "here", "way", "index", "begin", "end", "kind"]
section
variable {P : Program} {w : World} {K : PySem.W.Frag} {mg : Str → Option Value} {base : Heap} {f : Addr} {fd : FuncData}
theorem h_sc6 : FnScope nCT ["edges", "allowed", "place"] (defScope sCycThr) := ⟨rfl, rfl, rfl, by decide +kernel, rfl, by decide +kernel, by decide +kernel⟩
abbrev cCycThr : List D → D → Prop := fun ds d => ∃ (es : List Ed) (al : List Nat) (p n : Nat), ds = [esD es, nsD al, nD p] ∧ (∀ i ∈ al, i < es.length ∧ (ed es i).e < n) ∧ al.length ≤ 60 ∧ n ≤ 24 ∧ d = optD (thr es al p)
theorem ed_get {es : List Ed} {i : Nat} (h : i < es.length) : (es.map eD)[i]? = some (eD (ed es i)) := by
  rw [List.getElem?_map, List.getElem?_eq_getElem h]
  show some (eD es[i]) = some (eD (es.getD i ⟨0, 0, Str.empty⟩))
  rw [List.getD_eq_getElem?_getD, List.getElem?_eq_getElem h, Option.getD_some]
theorem cycle_through (F : Df K mg "cycle_through" sCycThr f fd) (T : Txt mg) : FnG P w K mg base CX0 1 f (spP K cCycThr) := by
  refine fn_pure F.fn h_sc6 (F.fn.binds fun _ _ _ _ _ _ us hl => match us, hl with | [_, _, _], _ => rfl) (by rintro ds d ⟨_, _, _, _, rfl, _⟩; rfl) (by decide) fun cdv A outer s H E ds d g ⟨es, al, pl, n, e, hal, hl, hn, e'⟩ => ?_
  subst e e'
  have nd := h_sc6.nd
  refine dss_cons (ds_parLO (i := 3) (j := 4) (ds := [wD (pl, [])]) (δ1 := [.dat (esD es), .dat (nsD al), .dat (nD pl), .no, .no, .no, .no, .no, .no, .no, .no, .no]) (do_lst (da_one (de_tup (da_cons (de_v 2) (da_one (DO.de (do_lst da_nil (by exact Nat.zero_le _))))) (by exact (by decide : 2 ≤ sizeLine)))) (by exact (by decide : 1 ≤ sizeLine))) (fun r q => ?_) rfl rfl)
  refine dss_cons (ds_set 5 de_int ?_)
  show DSs (BX P w K mg base nCT "cycle_through" sCycThr f cdv A outer s H E) _ _ _
  refine dss_cons ?_
  refine ds_while (fun m δ => ∃ (W : Wt) (spot : Nat) (x6 x7 x8 x9 x10 x11 : Sl), m = 26 - spot ∧ WOk es al pl W ∧ spot ≤ W.length ∧ bfs es al pl (30 - spot) spot W = thr es al pl ∧
    δ = [.dat (esD es), .dat (nsD al), .dat (nD pl), .own r (W.map wD), .own q ((seenL W).map nD), .dat (nD spot), x6, x7, x8, x9, x10, x11]) 26 ⟨[(pl, [])], 0, .no, .no, .no, .no, .no, .no, rfl, start_w, Nat.zero_le _, rfl, rfl⟩ ?_
  · rintro m δ2 ⟨W, spot, x6, x7, x8, x9, x10, x11, rfl, hW, hsp, hb, rfl⟩
    have hWl : W.length ≤ n + 1 := hW.len fun i hi => (hal i hi).2
    refine ⟨decide (spot < W.length), _, dt_is (dt_lt (de_v 5) (de_lenOwn 3 T.len rfl)) (by rw [List.length_map, decide_eq_decide]; omega), fun h => ?_, fun h => ?_⟩
    · have hs : spot < W.length := of_decide_eq_true h
      have hx : W.getD spot (0, []) ∈ W := by
        rw [List.getD_eq_getElem?_getD, List.getElem?_eq_getElem hs, Option.getD_some]
        exact List.getElem_mem hs
      have hg : (W.map wD)[spot]? = some (wD (W.getD spot (0, []))) := by
        rw [List.getElem?_map, List.getElem?_eq_getElem hs, List.getD_eq_getElem?_getD, List.getElem?_eq_getElem hs, Option.getD_some]
        rfl
      have hin := inner_ok (here := (W.getD spot (0, [])).1) (way := (W.getD spot (0, [])).2) (al := al) (fun i hi => hi) hW (hW.en _ hx)
      obtain ⟨k, hk⟩ : ∃ k, 30 - spot = k + 1 := ⟨29 - spot, by omega⟩
      have hb2 : (match inner es pl (W.getD spot (0, [])).1 (W.getD spot (0, [])).2 al W with
        | .inl c => some c
        | .inr w' => bfs es al pl k (spot + 1) w') = thr es al pl := by
        rw [← hb, hk]
        conv => rhs; unfold bfs
        rw [if_pos hs]
        all_goals (cases inner es pl (W.getD spot (0, [])).1 (W.getD spot (0, [])).2 al W <;> rfl)
      have hwl := (hW.en _ hx).len
      have hsl : (seenL W).length ≤ W.length := by
        show ((W.drop 1).map _).length ≤ _
        rw [List.length_map, List.length_drop]
        omega
      generalize W.getD spot (0, []) = hw at hg hin hb2 hx hwl
      obtain ⟨here, way⟩ := hw
      refine dss_cons (ds_asg (ws := [6] ++ ([7] ++ [])) (de_ixO 3 rfl (de_v 5) rfl (L2.atI_nat hg)) (dg_tup (ds := [nD here, nsD way]) (dgs_cons (dg_name 6) (dgs_cons (dg_name 7) dgs_nil))) ?_)
      refine dss_cons (ds_addI 5 rfl de_int ?_)
      refine dss_cons (ds_for (di_list (items := al.map nD) (de_v 1)) (fun j δ => ∃ (W' : Wt) (y8 y9 y10 y11 : Sl), inner es pl here way (al.drop j) W' = inner es pl here way al W ∧ W'.length ≤ W.length + j ∧ W' ≠ [] ∧
        δ = [.dat (esD es), .dat (nsD al), .dat (nD pl), .own r (W'.map wD), .own q ((seenL W').map nD), .dat (nD (spot + 1)), .dat (nD here), .dat (nsD way), y8, y9, y10, y11]) ⟨W, x8, x9, x10, x11, rfl, Nat.le_refl _, hW.ne, rfl⟩ ?_ ?_)
      · rintro j d δ2 hj ⟨W', y8, y9, y10, y11, h1, h2, h3, rfl⟩
        have hjl : j < al.length := by
          have z := (List.getElem?_eq_some_iff.mp hj).1
          rw [List.length_map] at z
          exact z
        obtain ⟨i, hi⟩ : ∃ i, al[j] = i := ⟨_, rfl⟩
        have hd : d = nD i := by
          rw [List.getElem?_map, List.getElem?_eq_getElem hjl, hi] at hj
          exact (Option.some.inj hj).symm
        subst hd
        have him : i ∈ al := by rw [← hi]; exact List.getElem_mem hjl
        have hil := (hal i him).1
        have hdr : al.drop j = i :: al.drop (j + 1) := by rw [List.drop_eq_getElem_cons hjl, hi]
        rw [hdr] at h1
        refine ⟨[8], _, dg_name 8, ?_⟩
        refine dss_cons (ds_asg (ws := [9] ++ ([10] ++ ([11] ++ []))) (de_ixL (de_v 0) (de_v 8) (L2.atI_nat (ed_get hil))) (dg_tup (ds := [nD (ed es i).b, nD (ed es i).e, .str (ed es i).w]) (dgs_cons (dg_name 9) (dgs_cons (dg_name 10) (dgs_cons (dg_name 11) dgs_nil)))) ?_)
        refine dss_cons (ds_if (m := decide ((ed es i).b = here ∧ (ed es i).e = pl)) (dt_is (dt_and (dt_eqi (de_v 9) (de_v 6)) fun _ => dt_eqi (de_v 10) (de_v 2)) ?_) (fun hm => dss_cons (ds_ret (DO.de (do_lst (da_starL (de_v 7) (da_one (de_v 8))) ?_)) ?_)) (fun hm => dss_nil ?_))
        · rw [Bool.eq_iff_iff]
          simp only [Bool.and_eq_true, decide_eq_true_eq]
          omega
        · have z : way.length ≤ (seenL W).length := hwl
          rw [List.length_append, List.length_map, sizeLine_eq]
          show way.length + 1 ≤ _
          omega
        · show D.lst (way.map nD ++ [nD i]) = optD _
          rw [← hb2, ← h1]
          unfold inner
          rw [if_pos (of_decide_eq_true hm)]
          show _ = nsD (way ++ [i])
          show _ = D.lst ((way ++ [i]).map nD)
          rw [List.map_append]
          rfl
        · have hm' := of_decide_eq_false hm
          conv at h1 => lhs; unfold inner
          rw [if_neg hm'] at h1
          have z : way.length ≤ (seenL W).length := hwl
          have hsl' : (seenL W').length ≤ W'.length := by
            show ((W'.drop 1).map _).length ≤ _
            rw [List.length_map, List.length_drop]
            omega
          refine dss_cons (ds_if (m := decide ((ed es i).b = here ∧ (ed es i).e ∉ seenL W')) (dt_is (dt_and (dt_eqi (de_v 9) (de_v 6)) fun _ => dt_notInOw 4 (de_v 10) rfl) ?_)
            (fun hm2 => dss_cons (ds_app (p0 := fun h1 h2 => pe_bm PySem.F.plainAttrs_list PySem.F.slot_list_append PySem.F.type_list_append mt_append h1 h2) (d := nD (ed es i).e) (δ1 := [.dat (esD es), .dat (nsD al), .dat (nD pl), .own r (W'.map wD), .own q ((seenL W').map nD), .dat (nD (spot + 1)), .dat (nD here), .dat (nsD way), .dat (nD i), .dat (nD (ed es i).b), .dat (nD (ed es i).e), .dat (.str (ed es i).w)]) 4 rfl (de_v 10) rfl ?_ (dss_cons (ds_app (p0 := fun h1 h2 => pe_bm PySem.F.plainAttrs_list PySem.F.slot_list_append PySem.F.type_list_append mt_append h1 h2) (d := .tup [nD (ed es i).e, .lst (way.map nD ++ [nD i])]) (δ1 := [.dat (esD es), .dat (nsD al), .dat (nD pl), .own r (W'.map wD), .own q ((seenL W').map nD ++ [nD (ed es i).e]), .dat (nD (spot + 1)), .dat (nD here), .dat (nsD way), .dat (nD i), .dat (nD (ed es i).b), .dat (nD (ed es i).e), .dat (.str (ed es i).w)]) 3 rfl (de_tup (da_cons (de_v 10) (da_one (DO.de (do_lst (da_starL (de_v 7) (da_one (de_v 8))) ?_)))) (by exact (by decide : 2 ≤ sizeLine))) rfl ?_ (dss_nil (dss_nil ?_)))))) (fun hm2 => dss_nil (dss_nil ?_)))
          · rw [Bool.eq_iff_iff]
            simp only [Bool.and_eq_true, decide_eq_true_eq, Bool.not_eq_true', decide_eq_false_iff_not]
            constructor
            · rintro ⟨a, b⟩
              exact ⟨by omega, b⟩
            · rintro ⟨a, b⟩
              exact ⟨by omega, b⟩
          · rw [List.length_map]
            omega
          · rw [List.length_append, List.length_map, sizeLine_eq]
            show way.length + 1 ≤ _
            omega
          · rw [List.length_map]
            omega
          · rw [if_pos (of_decide_eq_true hm2)] at h1
            refine ⟨W' ++ [((ed es i).e, way ++ [i])], .dat (nD i), .dat (nD (ed es i).b), .dat (nD (ed es i).e), .dat (.str (ed es i).w), h1, by rw [List.length_append]; show W'.length + 1 ≤ _; omega, by simp, ?_⟩
            rw [seen_app h3, List.map_append, List.map_append]
            show _ = [_, _, _, Sl.own r (W'.map wD ++ [D.tup [nD (ed es i).e, D.lst ((way ++ [i]).map nD)]]), _, _, _, _, _, _, _, _]
            rw [List.map_append]
            rfl
          · rw [if_neg (of_decide_eq_false hm2)] at h1
            exact ⟨W', .dat (nD i), .dat (nD (ed es i).b), .dat (nD (ed es i).e), .dat (.str (ed es i).w), h1, by omega, h3, rfl⟩
      · rintro δ2 ⟨W', y8, y9, y10, y11, h1, h2, h3, rfl⟩
        rw [List.length_map, List.drop_length] at h1
        have h1' : inner es pl here way al W = .inr W' := h1.symm
        rw [h1'] at hin hb2
        obtain ⟨i1, ⟨m, i2⟩, _⟩ := hin
        have hk2 : 30 - (spot + 1) = k := by omega
        refine dss_nil ⟨26 - (spot + 1), by omega, W', spot + 1, _, _, _, _, _, _, rfl, i1, ?_, ?_, rfl⟩
        · rw [i2, List.length_append]
          omega
        · rw [hk2]
          exact hb2
    · have hs : ¬ spot < W.length := of_decide_eq_false h
      obtain ⟨k, hk⟩ : ∃ k, 30 - spot = k + 1 := ⟨29 - spot, by omega⟩
      refine dss_cons (ds_ret de_non ?_)
      show D.non = optD (thr es al pl)
      rw [← hb, hk]
      unfold bfs
      rw [if_neg hs]
      rfl
end
end Gr

/-! part Gw4 -/
set_option pp.maxSteps 400
namespace Gr
open PySem PySem.Spec PyProof.Rows L2 Dy Kk
theorem enum_map {α : Type} (l : List α) (e : α → D) (z : α) : enumD (l.map e) = (List.range l.length).map fun i => D.tup [nD i, e (l.getD i z)] := by
  unfold enumD
  refine List.ext_getElem? fun i => ?_
  rw [List.getElem?_mapIdx, List.getElem?_map, List.getElem?_map]
  by_cases h : i < l.length
  · have e2 : l.getD i z = l[i] := by
      rw [List.getD_eq_getElem?_getD, List.getElem?_eq_getElem h]
      rfl
    rw [List.getElem?_eq_getElem h, List.getElem?_range h]
    show some (D.tup [_, e l[i]]) = some (D.tup [nD i, e (l.getD i z)])
    rw [e2]
  · rw [List.getElem?_eq_none (by omega), List.getElem?_eq_none (by rw [List.length_range]; omega)]
    rfl
def isAt (t : Nat) : D → Bool
  | .tup [_, .int o] => decide (o = t)
  | _ => false
def frst : D → D
  | .tup (a :: _) => a
  | _ => .non
theorem places_enum (dd : List Nat) (t : Nat) : ((enumD (dd.map nD)).filter (isAt t)).map frst = (placesL dd t).map nD := by
  rw [enum_map dd nD 0, List.filter_map, List.map_map]
  unfold placesL
  have e : (isAt t ∘ fun i => D.tup [nD i, nD (dd.getD i 0)]) = fun p => decide (dp dd p = t) := by
    funext i
    show decide (((dd.getD i 0 : Nat) : Int) = (t : Int)) = decide (dd.getD i 0 = t)
    rw [decide_eq_decide]
    omega
  rw [e]
  rfl
abbrev nSC : List Str := ["depths", "edges", "depth", "allowed", "index", "begin", "end", "way", "is_round", "place", "found", "own"]
section
variable {P : Program} {w : World} {K : PySem.W.Frag} {mg : Str → Option Value} {base : Heap} {f : Addr} {fd : FuncData}
theorem h_sc7 : FnScope nSC ["depths", "edges"] (defScope sStuckC) := ⟨rfl, rfl, rfl, by decide +kernel, rfl, by decide +kernel, by decide +kernel⟩
abbrev cStuckC : List D → D → Prop := fun ds d => ∃ (dd : List Nat) (es : List Ed), ds = [nsD dd, esD es] ∧ Net dd es ∧ d = optD (stuckC dd es)
abbrev gT (dd : List Nat) (es : List Ed) (t : Nat) : Option (List Nat) := firstL (thr es (allowedL dd es t)) (placesL dd t)
theorem stuck_cycle (F : Df K mg "stuck_cycle" sStuckC f fd) (T : Txt mg) (hE : mg "enumerate" = none) (M : Most mg) (G : Gn P w K mg base "cycle_through" 1 (spP K cCycThr)) : FnG P w K mg base CX0 2 f (spP K cStuckC) := by
  refine fn_pure F.fn h_sc7 (F.fn.binds fun _ _ _ _ _ _ us hl => match us, hl with | [_, _], _ => rfl) (by rintro ds d ⟨_, _, rfl, _⟩; rfl) (by decide) fun cdv A outer s H E ds d g ⟨dd, es, e, hn, e'⟩ => ?_
  subst e e'
  have nd := h_sc7.nd
  have h2 := hn.n2
  have h3 := hn.m
  refine dss_cons (ds_for (di_range2 rfl T.range (da_cons de_int (da_one (de_add (de_globI2 M.d) de_int))) (by omega)) (fun j δ => firstL (gT dd es) ([1, 2, 3].drop j) = stuckC dd es ∧ ∃ x2 x3 x4 x5 x6 x7 x8 x9 x10, δ = [.dat (nsD dd), .dat (esD es), x2, x3, x4, x5, x6, x7, x8, x9, x10, .no])
    ⟨rfl, .no, .no, .no, .no, .no, .no, .no, .no, .no, rfl⟩ ?_ ?_)
  · rintro j d δ2 hj ⟨hres, x2, x3, x4, x5, x6, x7, x8, x9, x10, rfl⟩
    obtain ⟨t, hd, hdr⟩ : ∃ t : Nat, d = nD t ∧ ([1, 2, 3] : List Nat).drop j = t :: ([1, 2, 3] : List Nat).drop (j + 1) := by
      have hjl : j < 3 := by
        have z := (List.getElem?_eq_some_iff.mp hj).1
        rw [List.length_map, List.length_range] at z
        exact z
      have z : j = 0 ∨ j = 1 ∨ j = 2 := by omega
      rcases z with rfl | rfl | rfl
      · exact ⟨1, (Option.some.inj hj).symm, rfl⟩
      · exact ⟨2, (Option.some.inj hj).symm, rfl⟩
      · exact ⟨3, (Option.some.inj hj).symm, rfl⟩
    subst hd
    rw [hdr] at hres
    refine ⟨[2], _, dg_name 2, ?_⟩
    refine dss_cons (ds_setO 3 (do_lst da_nil (by exact Nat.zero_le _)) fun p => ?_)
    refine dss_cons (ds_for (di_enum hE (de_v 1)) (fun i δ => ∃ y4 y5 y6 y7 y8, δ = [.dat (nsD dd), .dat (esD es), .dat (nD t), .own p (((List.range i).filter (alw dd es t)).map nD), y4, y5, y6, y7, y8, x9, x10, .no]) ⟨x4, x5, x6, x7, x8, rfl⟩ ?_ ?_)
    · rintro i d δ3 hi ⟨y4, y5, y6, y7, y8, rfl⟩
      rw [enum_map es eD ⟨0, 0, Str.empty⟩] at hi
      have hil : i < es.length := by
        have z := (List.getElem?_eq_some_iff.mp hi).1
        rw [List.length_map, List.length_range] at z
        exact z
      have hd : d = .tup [nD i, eD (ed es i)] := by
        rw [List.getElem?_map, List.getElem?_range hil] at hi
        exact (Option.some.inj hi).symm
      subst hd
      have hb := hn.ok.edB hil
      have he := hn.ok.edE hil
      have hfl : ((List.range i).filter (alw dd es t)).length ≤ i := Nat.le_trans (List.length_filter_le _ _) (by rw [List.length_range]; exact Nat.le_refl _)
      refine ⟨[4] ++ (([5] ++ ([6] ++ ([7] ++ []))) ++ []), _, dg_tup (ds := [nD i, eD (ed es i)]) (dgs_cons (dg_name 4) (dgs_cons (dg_tup (ds := [nD (ed es i).b, nD (ed es i).e, .str (ed es i).w]) (dgs_cons (dg_name 5) (dgs_cons (dg_name 6) (dgs_cons (dg_name 7) dgs_nil)))) dgs_nil)), ?_⟩
      refine dss_cons (ds_set 8 (d := .bl (decide ((ed es i).w = rnd) && decide (dp dd (ed es i).b = t))) (de_and (m := decide ((ed es i).w = rnd)) (n := decide (dp dd (ed es i).b = t)) (de_eqs (de_v 7) de_str) fun _ => de_one (de_is (de_eqi (de_ixL (de_v 0) (de_v 5) (L2.atI_nat (dp_get hb))) (de_v 2)) (congrArg D.bl (by rw [decide_eq_decide]; omega)))) ?_)
      refine dss_cons (ds_if (m := alw dd es t i) (dt_is (dt_and (dt_ge (de_min2 T.min (da_cons (de_ixL (de_v 0) (de_v 5) (L2.atI_nat (dp_get hb))) (da_one (de_ixL (de_v 0) (de_v 6) (L2.atI_nat (dp_get he)))))) (de_v 2)) fun _ => dt_not (dt_val (de_v 8))) ?_)
        (fun hm => dss_cons (ds_app (p0 := fun h1 h2 => pe_bm PySem.F.plainAttrs_list PySem.F.slot_list_append PySem.F.type_list_append mt_append h1 h2) (d := nD i) (δ1 := [.dat (nsD dd), .dat (esD es), .dat (nD t), .own p (((List.range i).filter (alw dd es t)).map nD), .dat (nD i), .dat (nD (ed es i).b), .dat (nD (ed es i).e), .dat (.str (ed es i).w), .dat (.bl (decide ((ed es i).w = rnd) && decide (dp dd (ed es i).b = t))), x9, x10, .no]) 3 rfl (de_v 4) rfl ?_ (dss_nil (dss_nil ?_)))) (fun hm => dss_nil (dss_nil ?_)))
      · unfold alw
        congr 1
        rw [decide_eq_decide]
        omega
      · rw [List.length_map]
        omega
      · refine ⟨.dat (nD i), .dat (nD (ed es i).b), .dat (nD (ed es i).e), .dat (.str (ed es i).w), .dat (.bl (decide ((ed es i).w = rnd) && decide (dp dd (ed es i).b = t))), ?_⟩
        rw [List.range_succ, List.filter_append, List.filter_cons_of_pos hm, List.filter_nil, List.map_append]
        rfl
      · refine ⟨.dat (nD i), .dat (nD (ed es i).b), .dat (nD (ed es i).e), .dat (.str (ed es i).w), .dat (.bl (decide ((ed es i).w = rnd) && decide (dp dd (ed es i).b = t))), ?_⟩
        rw [List.range_succ, List.filter_append, List.filter_cons_of_neg (by rw [hm]; decide), List.filter_nil, List.append_nil]
        rfl
    · rintro δ3 ⟨y4, y5, y6, y7, y8, rfl⟩
      have hel : (enumD (es.map eD)).length = es.length := by rw [enum_map es eD ⟨0, 0, Str.empty⟩, List.length_map, List.length_range]
      rw [hel]
      refine dss_frz 3 rfl ?_
      have hal : ∀ i ∈ allowedL dd es t, i < es.length ∧ (ed es i).e < dd.length := fun i hi => ⟨(mem_allowed.mp hi).1, hn.ok.edE (mem_allowed.mp hi).1⟩
      have hall : (allowedL dd es t).length ≤ 60 := Nat.le_trans (List.length_filter_le _ _) (by rw [List.length_range]; exact h3)
      have hgt : ∀ c, gT dd es t = some c → stuckC dd es = some c := fun c hc => by
        rw [← hres]
        show (match gT dd es t with
          | some c => some c
          | none => firstL (gT dd es) (([1, 2, 3] : List Nat).drop (j + 1))) = some c
        rw [hc]
      have hgn : gT dd es t = none → firstL (gT dd es) (([1, 2, 3] : List Nat).drop (j + 1)) = stuckC dd es := fun hc => by
        rw [← hres]
        show _ = (match gT dd es t with
          | some c => some c
          | none => firstL (gT dd es) (([1, 2, 3] : List Nat).drop (j + 1)))
        rw [hc]
      refine dss_cons (ds_for (di_list (items := (placesL dd t).map nD) (de_is (DO.de (do_lcIf (own := [("place", 9), ("own", 11)]) (isAt t) frst (blkOk_by (N := nSC) (sc := defScope sStuckC) (own := [("place", 9), ("own", 11)]) (by kernel_rfl)) (di_enum hE (de_v 0)) rfl ?_ ?_)) (congrArg D.lst (places_enum dd t))))
        (fun k δ => firstL (thr es (allowedL dd es t)) ((placesL dd t).drop k) = gT dd es t ∧ ∃ z9 z10, δ = [.dat (nsD dd), .dat (esD es), .dat (nD t), .dat (nsD (allowedL dd es t)), y4, y5, y6, y7, y8, z9, z10, .no]) ⟨rfl, .no, x10, rfl⟩ ?_ ?_)
      · intro d hd
        rw [enum_map dd nD 0] at hd
        obtain ⟨i, hi, rfl⟩ := List.mem_map.mp hd
        exact ⟨[9] ++ ([11] ++ []), _, _, by simp, fun _ _ _ _ _ => dg_tup (ds := [nD i, nD (dd.getD i 0)]) (dgs_cons (dg_name 9) (dgs_cons (dg_name 11) dgs_nil)), fun _ _ _ _ _ => dts_one (dt_is (dt_eqi (de_v 11) (de_v 2)) rfl), rfl, fun _ => ⟨_, fun _ _ _ _ _ => de_v 9, rfl⟩⟩
      · rw [enum_map dd nD 0, List.length_map, List.length_range]
        omega
      · rintro k d δ4 hk ⟨hr, z9, z10, rfl⟩
        have hkl : k < (placesL dd t).length := by
          have z := (List.getElem?_eq_some_iff.mp hk).1
          rw [List.length_map] at z
          exact z
        obtain ⟨pl, hpl⟩ : ∃ pl, (placesL dd t)[k] = pl := ⟨_, rfl⟩
        have hd : d = nD pl := by
          rw [List.getElem?_map, List.getElem?_eq_getElem hkl, hpl] at hk
          exact (Option.some.inj hk).symm
        subst hd
        have hdr2 : (placesL dd t).drop k = pl :: (placesL dd t).drop (k + 1) := by rw [List.drop_eq_getElem_cons hkl, hpl]
        rw [hdr2] at hr
        refine ⟨[9], _, dg_name 9, ?_⟩
        refine dss_cons (ds_set 10 (d := optD (thr es (allowedL dd es t) pl)) (de_callN G g (da_cons (de_v 1) (da_cons (de_v 3) (da_one (de_v 9)))) ⟨es, allowedL dd es t, pl, dd.length, rfl, hal, hall, h2, rfl⟩) ?_)
        cases hth : thr es (allowedL dd es t) pl with
        | some c =>
          refine dss_cons (ds_if (m := true) (dt_is (dt_notNone (de_v 10)) rfl) (fun _ => dss_cons (ds_ret (de_v 10) ?_)) (fun h => by cases h))
          show optD (some c) = optD (stuckC dd es)
          rw [hgt c]
          rw [← hr]
          unfold firstL
          rw [hth]
        | none =>
          refine dss_cons (ds_if (m := false) (dt_is (dt_notNone (de_v 10)) rfl) (fun h => by cases h) (fun _ => dss_nil (dss_nil ⟨?_, _, _, rfl⟩)))
          rw [← hr]
          conv => rhs; unfold firstL
          rw [hth]
      · rintro δ4 ⟨hr, z9, z10, rfl⟩
        rw [List.length_map, List.drop_length] at hr
        exact dss_nil ⟨hgn hr.symm, _, _, _, _, _, _, _, _, _, rfl⟩
  · rintro δ2 ⟨hres, x2, x3, x4, x5, x6, x7, x8, x9, x10, rfl⟩
    rw [List.length_map, List.length_range] at hres
    refine dss_cons (ds_ret de_non ?_)
    show D.non = optD (stuckC dd es)
    rw [← hres]
    rfl
end
end Gr

/-! part Ly69 -/
set_option pp.maxSteps 400
/-! len(set(xs)), xs a list of ints -/
namespace Dy
open PySem PySem.Spec PyProof.Rows L2
theorem nodup_subI : ∀ {m l : List Int}, l.Nodup → (∀ x ∈ l, x ∈ m) → l.length ≤ m.length
  | [], [], _, _ => Nat.le_refl _
  | [], x :: l, _, h => by simpa using h x (List.mem_cons_self ..)
  | a :: m, l, hd, h => by
    have h1 : (l.erase a).length ≤ m.length := nodup_subI (hd.erase a) fun x hx => by
      have h2 := (List.Nodup.mem_erase_iff hd).mp hx
      rcases List.mem_cons.mp (h x h2.2) with z | z
      · exact absurd z h2.1
      · exact z
    have h3 := @List.length_erase _ _ _ a l
    rw [List.length_cons]
    split at h3 <;> omega
theorem usort_nodup (ns : List Int) : (usort ns).Nodup := (usort_asc ns).imp fun h e => by rw [e] at h; exact Int.lt_irrefl _ h
section
variable {X : Cx} {a : Expr} {ta : TE} {p p2 q pos : Pos} {δ δ1 : List Sl}
def tLenSet (K : PySem.W.Frag) (ta : TE) : TE := fun σ H Q => ta σ H fun x H1 => ∃ (l : Addr) (ns : List Int), x = .ref l ∧ SqL K H1 l (ns.map V.int) ∧ ns.length ≤ 60 ∧ Q (.int ((usort ns).length : Int)) H1
theorem pe_lenSet (hg : Gl X "len") (hm : X.mg "len" = none) (hg2 : Gl X "set") (hm2 : X.mg "set" = none) (ha : PE X a ta) (hc : X.calm = true := by rfl) (na : starEach [a] X.env = (false, eval a X.env) :: starEach [] X.env := by exact st_any rfl) :
    PE X (.Call (.Name "len" p) [.Call (.Name "set" p2) [a] [] q] [] pos) (tLenSet X.K ta) := by
  refine ⟨fun pins s σ H Q I h => Call_ (ld_blt I hg hm PySem.boot_len (PyProof.Rows.callWith_builtin1 (PyProof.Rows.args_cons ?_ rfl) rfl rfl))⟩
  refine Call_ (ld_blt I hg2 hm2 PyProof.Rows.boot_set (PyProof.Rows.callWith_type1 (PyProof.Rows.args_cons (thn (ha.run pins s σ H _ I h) fun v s1 ⟨x, H1, I1, r1, q1⟩ => PyProof.Rows.args_nil ?_) na) na rfl))
  obtain ⟨l, ns, rfl, hq, hl, q1⟩ := q1
  have r1' : v = Value.ref l := r1
  subst r1'
  obtain ⟨its, r, pl, hz⟩ := I1.list hq
  refine Dz.set_of_list ns (I1.ok.hd hc) pl.isList (by simpa using r.ints) (by unfold scanBound; omega) fun s2 ⟨h', tk, c, e2, hS, hcn, hk⟩ => PyProof.Rows.args_nil ?_
  subst e2
  have I2 : L2.Inv X pins σ H1 { s1 with heap := h', toks := tk } := I1.kept hk
  obtain ⟨o, es, ep, t, ho, hex, hd, g, nd, hmem, hb, hf, hn, hr, hl2⟩ := hS
  have e1 : es.size = (usort ns).length := by
    have z : (es.toList.map keyOf).length = (usort ns).length := Nat.le_antisymm (nodup_subI nd fun x hx => mem_usort.mpr (of_decide_eq_true ((hmem x).mpr hx))) (nodup_subI (usort_nodup ns) fun x hx => (hmem x).mp (decide_eq_true (mem_usort.mp hx)))
    rw [List.length_map, Array.length_toList] at z
    exact z
  refine call_len_set ho hex hd hf (by have := usort_len ns; omega) ?_
  rw [e1]
  exact ⟨.int _, H1, (I2.tok _).tok _, ⟨_, rfl⟩, q1⟩
theorem de_lenSet {ns : List Int} (hm : X.mg "len" = none) (hm2 : X.mg "set" = none) (h : DE X a δ (.lst (ns.map D.int)) δ1) (hl : ns.length ≤ 60) (hc : X.calm = true := by rfl) (hg : Gl X "len" := by rfl) (hg2 : Gl X "set" := by rfl) (na : starEach [a] X.env = (false, eval a X.env) :: starEach [] X.env := by exact st_any rfl) :
    DE X (.Call (.Name "len" p) [.Call (.Name "set" p2) [a] [] q] [] pos) δ (.int ((usort ns).length : Int)) δ1 := fun F R H σ Q s k =>
  (pe_lenSet hg hm hg2 hm2 peW hc na).w (h F R H σ _ s fun v R1 H1 t1 s1 iv => by
    cases iv with
    | lst qa ia => exact ⟨_, ns, rfl, SqL.of (by rw [← ia.ints]; exact s1.rg _ _ qa), hl, k _ R1 H1 t1 s1 (.int _)⟩)
end
end Dy

/-! part Gw5 -/
set_option pp.maxSteps 400
namespace Gr
open PySem PySem.Spec PyProof.Rows L2 Dy Kk
/-- a list of numbers of edges that is a cycle -/
structure CycL (es : List Ed) (c : List Nat) : Prop where
  ne : c ≠ []
  r : ∀ i ∈ c, i < es.length
  rot : c.map (fun i => (ed es i).b) = (c.map fun i => (ed es i).e).drop (c.length - 1) ++ (c.map fun i => (ed es i).e).take (c.length - 1)
  nd : (c.map fun i => (ed es i).b).Nodup
theorem path_rot {es : List Ed} {b : Nat} : ∀ {a : Nat} {c : List Nat}, c ≠ [] → Path es a c b → c.map (fun i => (ed es i).b) = a :: (c.map fun i => (ed es i).e).take (c.length - 1) ∧ (c.map fun i => (ed es i).e).drop (c.length - 1) = [b]
  | a, [], h, _ => absurd rfl h
  | a, [i], _, hp => by
    have h2 : (ed es i).e = b := hp.2
    exact ⟨by show [(ed es i).b] = [a]; rw [hp.1], by show [(ed es i).e] = [b]; rw [h2]⟩
  | a, i :: j :: c, _, hp => by
    obtain ⟨h1, h2⟩ := path_rot (c := j :: c) (by simp) hp.2
    constructor
    · show (ed es i).b :: (j :: c).map (fun i => (ed es i).b) = a :: ((ed es i).e :: (j :: c).map fun i => (ed es i).e).take ((c.length + 1 + 1) - 1)
      rw [h1, hp.1]
      rfl
    · exact h2
theorem CycAt.cyc {es : List Ed} {al : List Nat} {p : Nat} {c : List Nat} (h : CycAt es al p c) (hal : ∀ i ∈ al, i < es.length) : CycL es c := by
  obtain ⟨h1, h2⟩ := path_rot h.ne h.pa
  exact ⟨h.ne, fun i hi => hal i (h.al i hi), by rw [h1, h2]; rfl, h.nd⟩
/-- no round at the least depth -/
def leastD (ds : List Nat) (es : List Ed) (c : List Nat) : Nat := (c.map fun i => dp ds (ed es i).b).foldl min (dp ds (ed es (c.headD 0)).b)
structure StL (ds : List Nat) (es : List Ed) (c : List Nat) : Prop where
  cyc : CycL es c
  st : ∃ t, (∃ i ∈ c, dp ds (ed es i).b = t) ∧ (∀ i ∈ c, t ≤ dp ds (ed es i).b) ∧ ∀ i ∈ c, ¬((ed es i).w = rnd ∧ dp ds (ed es i).b = t)
theorem CycAt.stuck {ds : List Nat} {es : List Ed} {p : Nat} {c : List Nat} (h : CycAt es (allowedL ds es (dp ds p)) p c) : StL ds es c := by
  refine ⟨h.cyc fun i hi => (mem_allowed.mp hi).1, dp ds p, ?_, fun i hi => (mem_allowed.mp (h.al i hi)).2.1, fun i hi => (mem_allowed.mp (h.al i hi)).2.2.2⟩
  have hp := h.pa
  have hne := h.ne
  cases c with
  | nil => exact absurd rfl hne
  | cons i c => exact ⟨i, List.mem_cons_self .., by rw [hp.1]⟩
theorem CycL.short {ds : List Nat} {es : List Ed} {c : List Nat} (h : CycL es c) (hn : NetOk ds es) : c.length ≤ 24 := by
  have z := nodup_lt (n := ds.length) h.nd fun x hx => by
    obtain ⟨i, hi, rfl⟩ := List.mem_map.mp hx
    exact hn.edB (h.r i hi)
  rw [List.length_map] at z
  exact Nat.le_trans z hn.n2
/-- the program's stuck cycle is one -/
theorem stuckC_stuck {ds : List Nat} {es : List Ed} {c : List Nat} (h : NetOk ds es) (hc : stuckC ds es = some c) : StL ds es c := by
  obtain ⟨t, p, h1, h2, h3⟩ := stuckC_some h hc
  subst h2
  exact h3.stuck
end Gr

/-! part Gw6 -/
set_option pp.maxSteps 400
namespace Gr
open PySem PySem.Spec PyProof.Rows L2 Dy Kk
theorem nsD_ints (c : List Nat) : nsD c = .lst ((c.map fun n : Nat => (n : Int)).map D.int) := by
  show D.lst _ = _
  rw [List.map_map]
  rfl
theorem okD_ns {c : List Nat} (h : ∀ n ∈ c, n < 1000) : okD 1 (nsD c) = true := by
  rw [nsD_ints]
  refine okD_ints (n := 0) fun i hi => ?_
  obtain ⟨n, hn, rfl⟩ := List.mem_map.mp hi
  have := h n hn
  have := Nat.log2_le_self n
  show n.log2 < 1920
  omega
theorem eqv_ns (c c' : List Nat) : PyData.eqv (py (nsD c)) (py (nsD c')) = decide (c = c') := by
  rw [nsD_ints, nsD_ints, eqv_lints, decide_eq_decide]
  constructor
  · intro h
    have z := congrArg (List.map Int.toNat) h
    rw [List.map_map, List.map_map] at z
    have e : (Int.toNat ∘ fun n : Nat => (n : Int)) = id := by funext n; exact Int.toNat_natCast n
    rw [e, List.map_id, List.map_id] at z
    exact z
  · intro h; rw [h]
section
variable {X : Cx} {a b : Expr} {δ δ1 δ2 : List Sl} {pos : Pos} {k : Nat} {c c' : List Nat}
theorem de_eqNs (g : Gx X k) (ha : DE X a δ (nsD c) δ1) (hb : DE X b δ1 (nsD c') δ2) (h1 : ∀ n ∈ c, n < 1000) (h2 : ∀ n ∈ c', n < 1000) : DE X (.Compare a [.Eq] [b] pos) δ (.bl (decide (c = c'))) δ2 :=
  de_is (de_eqD (n := 1) g ha hb (okD_ns h1) (okD_ns h2)) (by rw [eqv_ns])
theorem dt_eqNs (g : Gx X k) (ha : DE X a δ (nsD c) δ1) (hb : DE X b δ1 (nsD c') δ2) (h1 : ∀ n ∈ c, n < 1000) (h2 : ∀ n ∈ c', n < 1000) : DT X (.Compare a [.Eq] [b] pos) δ (decide (c = c')) δ2 :=
  dt_is (dt_eqD (n := 1) g ha hb (okD_ns h1) (okD_ns h2)) (by rw [eqv_ns])
end
/-- a cycle of a network of this size -/
structure CycW (es : List Ed) (c : List Nat) : Prop where
  cyc : CycL es c
  len : c.length ≤ 24
  m : es.length ≤ 60
  b : ∀ i ∈ c, (ed es i).b < 24
  e : ∀ i ∈ c, (ed es i).e < 24
theorem StL.w {ds : List Nat} {es : List Ed} {c : List Nat} (h : StL ds es c) (hn : NetOk ds es) : CycW es c :=
  ⟨h.cyc, h.cyc.short hn, hn.m, fun i hi => Nat.lt_of_lt_of_le (hn.edB (h.cyc.r i hi)) hn.n2, fun i hi => Nat.lt_of_lt_of_le (hn.edE (h.cyc.r i hi)) hn.n2⟩
theorem usort_len_nd {ns : List Int} (h : ns.Nodup) : (usort ns).length = ns.length :=
  Nat.le_antisymm (nodup_subI (usort_nodup ns) fun x hx => mem_usort.mp hx) (nodup_subI h fun x hx => mem_usort.mpr hx)
theorem cut_last1 {ds : List D} : Dy.cutD ds (some (-1)) none = ds.drop (ds.length - 1) := by
  unfold Dy.cutD
  have e : ∀ n, HT.sIx ds.length n (some (-1)) = ds.length - 1 := fun n => by
    unfold HT.sIx
    dsimp only
    rw [if_pos (by decide)]
    omega
  rw [e, HT.sIx_none, List.take_of_length_le (by rw [List.length_drop]; omega)]
theorem cut_init1 {ds : List D} : Dy.cutD ds none (some (-1)) = ds.take (ds.length - 1) := by
  unfold Dy.cutD
  have e : ∀ n, HT.sIx ds.length n (some (-1)) = ds.length - 1 := fun n => by
    unfold HT.sIx
    dsimp only
    rw [if_pos (by decide)]
    omega
  rw [e, HT.sIx_none, List.drop_zero, Nat.sub_zero]
abbrev bgs (es : List Ed) (c : List Nat) : List Nat := c.map fun i => (ed es i).b
abbrev ens (es : List Ed) (c : List Nat) : List Nat := c.map fun i => (ed es i).e
def bgD (es : List Ed) : D → D
  | .int i => nD (ed es i.toNat).b
  | _ => .non
def enD (es : List Ed) : D → D
  | .int i => nD (ed es i.toNat).e
  | _ => .non
theorem ens_map (es : List Ed) (c : List Nat) : (c.map nD).map (enD es) = (ens es c).map nD := by
  rw [List.map_map, List.map_map]
  rfl
theorem bgs_map (es : List Ed) (c : List Nat) : (c.map nD).map (bgD es) = (bgs es c).map nD := by
  rw [List.map_map, List.map_map]
  rfl
section
variable {P : Program} {w : World} {K : PySem.W.Frag} {mg : Str → Option Value} {base : Heap} {f : Addr} {fd : FuncData}
theorem h_sc8 : FnScope ["edges", "value", "ends", "begins", "index"] ["edges", "value"] (defScope sIsCyc) := ⟨rfl, rfl, rfl, by decide +kernel, rfl, by decide +kernel, by decide +kernel⟩
abbrev cIsCyc : List D → D → Prop := fun ds d => ∃ (es : List Ed) (c : List Nat), ds = [esD es, nsD c] ∧ CycW es c ∧ d = .bl true
theorem is_cycle (F : Df K mg "is_cycle" sIsCyc f fd) (T : Txt mg) (G : Gn P w K mg base "is_number" 1 (spP K cIsNum)) : FnG P w K mg base CX0 2 f (spP K cIsCyc) := by
  refine fn_pure F.fn h_sc8 (F.fn.binds fun _ _ _ _ _ _ us hl => match us, hl with | [_, _], _ => rfl) (by rintro ds d ⟨_, _, rfl, _⟩; rfl) (by decide) fun cdv A outer s H E ds d g ⟨es, c, e, hw, e'⟩ => ?_
  subst e e'
  have nd := h_sc8.nd
  have hc := hw.cyc
  have hl := hw.len
  have hr1 : ∀ n ∈ c, n < 1000 := fun n hn => by have := hc.r n hn; have := hw.m; omega
  refine dss_cons (ds_if (m := false) (dt_is (dt_or (dt_not (dt_val (de_isi T.isinstance T.list "list" PyProof.Rows.boot_list (de_v 1) rfl kit_lst_lst))) fun _ => dt_eqNs (c' := []) g (de_v 1) (DO.de (do_lst da_nil (by exact Nat.zero_le _))) hr1 (fun n hn => by cases hn)) (by rw [decide_eq_false hc.ne]; rfl)) (fun h => by cases h) (fun _ => dss_nil ?_))
  refine dss_cons (ds_if (m := false) (dt_is (dt_not (dt_val (de_all (bs := c.map fun _ => true) T.all (de_is (DO.de (do_lcMap (own := [("index", 4)]) (fun _ => .bl true) (blkOk_by (N := ["edges", "value", "ends", "begins", "index"]) (sc := defScope sIsCyc) (own := [("index", 4)]) (by kernel_rfl)) (di_list (de_v 1)) rfl ?_ ?_)) ?_)))) (by rw [all_true]; rfl)) (fun h => by cases h) (fun _ => dss_nil ?_))
  · intro d hd
    obtain ⟨i, hi, rfl⟩ := List.mem_map.mp hd
    have hil := hc.r i hi
    exact ⟨[4], _, _, by simp, fun _ _ _ _ _ => dg_name 4, fun _ _ _ _ _ => de_callN (k' := 1) G ⟨g.rm, g.gd⟩ (da_cons (de_v 4) (da_cons de_int (da_one (de_sub (de_lenL T.len (de_v 0)) de_int)))) ⟨i, 0, _, rfl, by
      rw [List.length_map, decide_eq_true (by omega), decide_eq_true (by omega)]
      rfl⟩, rfl⟩
  · rw [List.length_map]; omega
  · rw [List.map_map, List.map_map]
    rfl
  refine dss_cons (ds_lcMap (i := 2) (own := [("index", 4)]) (enD es) rfl (blkOk_by (N := ["edges", "value", "ends", "begins", "index"]) (sc := defScope sIsCyc) (own := [("index", 4)]) (by kernel_rfl)) (di_list (de_v 1)) rfl (fun d hd => by
    obtain ⟨i, hi, rfl⟩ := List.mem_map.mp hd
    exact ⟨[4], _, _, by simp, fun _ _ _ _ _ => dg_name 4, fun _ _ _ _ _ => de_ixT (ds := [nD (ed es i).b, nD (ed es i).e, .str (ed es i).w]) (de_ixL (de_v 0) (de_v 4) (L2.atI_nat (ed_get (hc.r i hi)))) de_int rfl, rfl⟩) (by rw [List.length_map]; omega) fun p2 => ?_)
  rw [ens_map]
  refine dss_frz 2 rfl ?_
  refine dss_cons (ds_lcMap (i := 3) (own := [("index", 4)]) (bgD es) rfl (blkOk_by (N := ["edges", "value", "ends", "begins", "index"]) (sc := defScope sIsCyc) (own := [("index", 4)]) (by kernel_rfl)) (di_list (de_v 1)) rfl (fun d hd => by
    obtain ⟨i, hi, rfl⟩ := List.mem_map.mp hd
    exact ⟨[4], _, _, by simp, fun _ _ _ _ _ => dg_name 4, fun _ _ _ _ _ => de_ixT (ds := [nD (ed es i).b, nD (ed es i).e, .str (ed es i).w]) (de_ixL (de_v 0) (de_v 4) (L2.atI_nat (ed_get (hc.r i hi)))) de_int rfl, rfl⟩) (by rw [List.length_map]; omega) fun p3 => ?_)
  rw [bgs_map]
  refine dss_frz 3 rfl ?_
  have hel : (ens es c).length = c.length := List.length_map ..
  have hbl : (bgs es c).length = c.length := List.length_map ..
  have hb1 : ∀ n ∈ bgs es c, n < 1000 := fun n hn => by
    obtain ⟨i, hi, rfl⟩ := List.mem_map.mp hn
    have := hw.b i hi
    omega
  have he1 : ∀ n ∈ ens es c, n < 1000 := fun n hn => by
    obtain ⟨i, hi, rfl⟩ := List.mem_map.mp hn
    have := hw.e i hi
    omega
  refine dss_cons (ds_ret (d := .bl true) (de_andT (de_is (de_eqNs (c := bgs es c) (c' := (ens es c).drop (c.length - 1) ++ (ens es c).take (c.length - 1)) g (de_v 3) (de_is (DO.de (do_lst (da_starL (DO.de (do_slL (l := some (-1)) (h := none) (de_v 2) (dp_some (de_neg de_int)) dp_none)) (da_starL (DO.de (do_slL (l := none) (h := some (-1)) (de_v 2) dp_none (dp_some (de_neg de_int)))) da_nil)) ?_)) ?_) hb1 ?_) (by rw [decide_eq_true hc.rot]))
    (de_one (de_is (de_eqi (de_is (de_lenSet (ns := (bgs es c).map fun n : Nat => (n : Int)) T.len T.set (de_is (de_v 3) (nsD_ints _)) ?_) rfl) (de_lenL T.len (de_v 3))) ?_))) rfl)
  · rw [cut_last1, cut_init1]
    simp only [List.length_append, List.length_map, List.length_drop, List.length_take, List.length_nil]
    rw [sizeLine_eq]
    omega
  · rw [cut_last1, cut_init1, List.length_map, hel, List.append_nil]
    show _ = D.lst (((ens es c).drop (c.length - 1) ++ (ens es c).take (c.length - 1)).map nD)
    rw [List.map_append, List.map_drop, List.map_take]
  · intro n hn
    rcases List.mem_append.mp hn with z | z
    · exact he1 n (List.mem_of_mem_drop z)
    · exact he1 n (List.mem_of_mem_take z)
  · rw [List.length_map, hbl]
    omega
  · have hnd : ((bgs es c).map fun n : Nat => (n : Int)).Nodup := by
      refine List.Pairwise.map _ (fun a b h z => h ?_) hc.nd
      exact Int.ofNat.inj z
    have z1 : ((bgs es c).map fun n : Nat => (n : Int)).length = c.length := by rw [List.length_map, hbl]
    have z2 : ((bgs es c).map nD).length = c.length := by rw [List.length_map, hbl]
    rw [usort_len_nd hnd, z1, z2, decide_eq_true rfl]
end
end Gr

/-! part Ly70 -/
set_option pp.maxSteps 400
/-! min(xs), max(xs), xs a list of ints -/
namespace Dy
open PySem PySem.Spec PyProof.Rows L2
section
variable {X : Cx} {a : Expr} {p pos : Pos} {δ δ1 : List Sl} {k : Nat}
theorem cr_minLI (hc : X.calm = true) (hu : X.A.units + 64 < cLine) : CallR X (.builtin "min") (fun vs H Q => ∃ a n ns, vs = [V.ref a] ∧ SqL X.K H a ((n :: ns).map V.int) ∧ Q (.int (minI n ns)) H) := by
  intro pins s σ H vs us Q I r h
  obtain ⟨a, n, ns, rfl, hq, q⟩ := h
  rw [Vals.ref1 r]
  obtain ⟨its, rv, p, _⟩ := I.list hq
  obtain ⟨as, hr⟩ := Dp.readsAll I _ _ its (dpAll_ints (n :: ns)) rv
  refine PySem.W.min_list_data (x := .int n) (xs := ns.map PyData.int) (I.ok.hd hc) p.isList (by simpa using hr) (alikeI (n :: ns)) (by
    have e : PyData.depthAll (PyData.int n :: ns.map PyData.int) = 0 := depthI (n :: ns)
    rw [e]
    omega) fun i v h' tk bs hv hrv hk => ?_
  rw [PySem.W.minD_ints] at hrv
  cases hrv
  exact ⟨.int _, H, I.kept (t' := tk) hk, ⟨_, rfl⟩, q⟩
theorem cr_maxLI (hc : X.calm = true) (hu : X.A.units + 64 < cLine) : CallR X (.builtin "max") (fun vs H Q => ∃ a n ns, vs = [V.ref a] ∧ SqL X.K H a ((n :: ns).map V.int) ∧ Q (.int (maxI n ns)) H) := by
  intro pins s σ H vs us Q I r h
  obtain ⟨a, n, ns, rfl, hq, q⟩ := h
  rw [Vals.ref1 r]
  obtain ⟨its, rv, p, _⟩ := I.list hq
  obtain ⟨as, hr⟩ := Dp.readsAll I _ _ its (dpAll_ints (n :: ns)) rv
  refine PySem.W.max_list_data (x := .int n) (xs := ns.map PyData.int) (I.ok.hd hc) p.isList (by simpa using hr) (alikeI (n :: ns)) (by
    have e : PyData.depthAll (PyData.int n :: ns.map PyData.int) = 0 := depthI (n :: ns)
    rw [e]
    omega) fun i v h' tk bs hv hrv hk => ?_
  rw [PySem.W.maxD_ints] at hrv
  cases hrv
  exact ⟨.int _, H, I.kept (t' := tk) hk, ⟨_, rfl⟩, q⟩
theorem de_minLI {n : Int} {ns : List Int} (g : Gx X k) (hm : X.mg "min" = none) (h : DE X a δ (.lst ((n :: ns).map D.int)) δ1) (hc : X.calm = true := by rfl) (hg : Gl X "min" := by rfl) (he : starEach [a] X.env = (false, eval a X.env) :: starEach [] X.env := by exact st_any rfl) (hpl : (backTo pos (starEach [] X.env)).any (·.1) = false := by rfl) :
    DE X (.Call (.Name "min" p) [a] [] pos) δ (.int (minI n ns)) δ1 :=
  de_b1 (cr_minLI hc g.rm.units) hm PyProof.Rows.boot_min h (fun v H Q R e iv kz => by
    cases iv with
    | lst q ia => exact ⟨_, n, ns, rfl, SqL.of (by rw [← IsA.ints (ns := n :: ns) ia]; exact e _ _ q), kz _ fun _ => .int _⟩) hg (by decide) (by decide) he hpl
theorem de_maxLI {n : Int} {ns : List Int} (g : Gx X k) (hm : X.mg "max" = none) (h : DE X a δ (.lst ((n :: ns).map D.int)) δ1) (hc : X.calm = true := by rfl) (hg : Gl X "max" := by rfl) (he : starEach [a] X.env = (false, eval a X.env) :: starEach [] X.env := by exact st_any rfl) (hpl : (backTo pos (starEach [] X.env)).any (·.1) = false := by rfl) :
    DE X (.Call (.Name "max" p) [a] [] pos) δ (.int (maxI n ns)) δ1 :=
  de_b1 (cr_maxLI hc g.rm.units) hm PyProof.Rows.boot_max h (fun v H Q R e iv kz => by
    cases iv with
    | lst q ia => exact ⟨_, n, ns, rfl, SqL.of (by rw [← IsA.ints (ns := n :: ns) ia]; exact e _ _ q), kz _ fun _ => .int _⟩) hg (by decide) (by decide) he hpl
theorem foldl_min : ∀ (ns : List Int) (n : Int), (∀ m ∈ n :: ns, minI n ns ≤ m) ∧ minI n ns ∈ n :: ns
  | [], n => ⟨fun m hm => by rw [List.mem_singleton.mp hm]; exact Int.le_refl _, List.mem_singleton.mpr rfl⟩
  | a :: ns, n => by
    obtain ⟨h1, h2⟩ := foldl_min ns (min n a)
    have e : minI n (a :: ns) = minI (min n a) ns := rfl
    rw [e]
    constructor
    · intro m hm
      have h3 := h1 (min n a) (List.mem_cons_self ..)
      rcases List.mem_cons.mp hm with rfl | hm
      · omega
      · rcases List.mem_cons.mp hm with rfl | hm
        · omega
        · exact h1 m (List.mem_cons_of_mem _ hm)
    · rcases List.mem_cons.mp h2 with z | z
      · rw [z]
        rcases Int.le_total n a with y | y
        · rw [Int.min_eq_left y]; exact List.mem_cons_self ..
        · rw [Int.min_eq_right y]; exact List.mem_cons_of_mem _ (List.mem_cons_self ..)
      · exact List.mem_cons_of_mem _ (List.mem_cons_of_mem _ z)
theorem foldl_max : ∀ (ns : List Int) (n : Int), (∀ m ∈ n :: ns, m ≤ maxI n ns) ∧ maxI n ns ∈ n :: ns
  | [], n => ⟨fun m hm => by rw [List.mem_singleton.mp hm]; exact Int.le_refl _, List.mem_singleton.mpr rfl⟩
  | a :: ns, n => by
    obtain ⟨h1, h2⟩ := foldl_max ns (max n a)
    have e : maxI n (a :: ns) = maxI (max n a) ns := rfl
    rw [e]
    constructor
    · intro m hm
      have h3 := h1 (max n a) (List.mem_cons_self ..)
      rcases List.mem_cons.mp hm with rfl | hm
      · omega
      · rcases List.mem_cons.mp hm with rfl | hm
        · omega
        · exact h1 m (List.mem_cons_of_mem _ hm)
    · rcases List.mem_cons.mp h2 with z | z
      · rw [z]
        rcases Int.le_total n a with y | y
        · rw [Int.max_eq_right y]; exact List.mem_cons_of_mem _ (List.mem_cons_self ..)
        · rw [Int.max_eq_left y]; exact List.mem_cons_self ..
      · exact List.mem_cons_of_mem _ (List.mem_cons_of_mem _ z)
end
end Dy

/-! part Gw7 -/
set_option pp.maxSteps 400
namespace Gr
open PySem PySem.Spec PyProof.Rows L2 Dy Kk
abbrev dbs (ds : List Nat) (es : List Ed) (c : List Nat) : List Nat := c.map fun i => dp ds (ed es i).b
def dbD (ds : List Nat) (es : List Ed) : D → D
  | .int i => nD (dp ds (ed es i.toNat).b)
  | _ => .non
theorem dbs_map (ds : List Nat) (es : List Ed) (c : List Nat) : (c.map nD).map (dbD ds es) = (dbs ds es c).map nD := by
  rw [List.map_map, List.map_map]
  rfl
/-- the least depth of a stuck cycle -/
structure Lst (ds : List Nat) (es : List Ed) (c : List Nat) (t : Nat) : Prop where
  inn : ∃ i ∈ c, dp ds (ed es i).b = t
  le : ∀ i ∈ c, t ≤ dp ds (ed es i).b
  no : ∀ i ∈ c, ¬((ed es i).w = rnd ∧ dp ds (ed es i).b = t)
theorem Lst.min {ds : List Nat} {es : List Ed} {c : List Nat} {t n : Nat} {ns : List Nat} (h : Lst ds es c t) (e : dbs ds es c = n :: ns) : minI (n : Int) (ns.map fun m : Nat => (m : Int)) = (t : Int) := by
  obtain ⟨h1, h2⟩ := foldl_min (ns.map fun m : Nat => (m : Int)) (n : Int)
  have e2 : (n : Int) :: ns.map (fun m : Nat => (m : Int)) = (dbs ds es c).map fun m : Nat => (m : Int) := by rw [e]; rfl
  rw [e2] at h1 h2
  obtain ⟨m, hm, hm2⟩ := List.mem_map.mp h2
  obtain ⟨i, hi, rfl⟩ := List.mem_map.mp hm
  have a1 := h.le i hi
  obtain ⟨j, hj, hj2⟩ := h.inn
  have a2 := h1 (t : Int) (List.mem_map.mpr ⟨t, List.mem_map.mpr ⟨j, hj, hj2⟩, rfl⟩)
  omega
def stB (ds : List Nat) (es : List Ed) (t : Nat) (i : Nat) : Bool := decide ((ed es i).w = rnd) && decide (dp ds (ed es i).b = t)
def stD (ds : List Nat) (es : List Ed) (t : Nat) : D → D
  | .int i => .bl (stB ds es t i.toNat)
  | _ => .non
def stT (ds : List Nat) (es : List Ed) (t : Nat) : D → Bool
  | .int i => stB ds es t i.toNat
  | _ => false
theorem Lst.off {ds : List Nat} {es : List Ed} {c : List Nat} {t : Nat} (h : Lst ds es c t) {i : Nat} (hi : i ∈ c) : stB ds es t i = false := by
  have z := h.no i hi
  unfold stB
  by_cases a : (ed es i).w = rnd
  · rw [decide_eq_false fun b => z ⟨a, b⟩, Bool.and_false]
  · rw [decide_eq_false a, Bool.false_and]
section
variable {P : Program} {w : World} {K : PySem.W.Frag} {mg : Str → Option Value} {base : Heap} {f : Addr} {fd : FuncData}
theorem h_sc9 : FnScope ["depths", "edges", "cycle", "least", "index"] ["depths", "edges", "cycle"] (defScope sIsStuck) := ⟨rfl, rfl, rfl, by decide +kernel, rfl, by decide +kernel, by decide +kernel⟩
abbrev cIsStuck : List D → D → Prop := fun ds d => ∃ (dd : List Nat) (es : List Ed) (c : List Nat), ds = [nsD dd, esD es, nsD c] ∧ Net dd es ∧ StL dd es c ∧ d = .bl true
theorem is_stuck (F : Df K mg "is_stuck" sIsStuck f fd) (T : Txt mg) (G1 : Gn P w K mg base "require_network" 4 (spP K cReqNet)) (G2 : Gn P w K mg base "is_cycle" 2 (spP K cIsCyc)) : FnG P w K mg base CX0 5 f (spP K cIsStuck) := by
  refine fn_pure F.fn h_sc9 (F.fn.binds fun _ _ _ _ _ _ us hl => match us, hl with | [_, _, _], _ => rfl) (by rintro ds d ⟨_, _, _, rfl, _⟩; rfl) (by decide) fun cdv A outer s H E ds d g ⟨dd, es, c, e, hn, hs, e'⟩ => ?_
  subst e e'
  have nd := h_sc9.nd
  have hw := hs.w hn.ok
  have hc := hs.cyc
  have hl := hw.len
  obtain ⟨t, t1, t2, t3⟩ := hs.st
  have L : Lst dd es c t := ⟨t1, t2, t3⟩
  obtain ⟨n, ns, en⟩ : ∃ n ns, dbs dd es c = n :: ns := by
    have hne := hc.ne
    cases c with
    | nil => exact absurd rfl hne
    | cons i c => exact ⟨_, _, rfl⟩
  refine dss_cons (ds_expr (de_callN G1 g (da_cons (de_v 0) (da_one (de_v 1))) ⟨dd, es, rfl, hn, rfl⟩) ?_)
  refine dss_cons (ds_if (m := false) (dt_is (dt_not (dt_val (de_callN G2 (k' := 2) ⟨g.rm.mono (by decide), g.gd⟩ (da_cons (de_v 1) (da_one (de_v 2))) ⟨es, c, rfl, hw, rfl⟩))) rfl) (fun h => by cases h) (fun _ => dss_nil ?_))
  refine dss_cons (ds_set 3 (d := nD t) (δ1 := [.dat (nsD dd), .dat (esD es), .dat (nsD c), .no, .no]) (de_is (de_minLI (n := n) (ns := ns.map fun m : Nat => (m : Int)) g T.min (de_is (DO.de (do_lcMap (own := [("index", 4)]) (dbD dd es) (blkOk_by (N := ["depths", "edges", "cycle", "least", "index"]) (sc := defScope sIsStuck) (own := [("index", 4)]) (by kernel_rfl)) (di_list (de_v 2)) rfl ?_ ?_)) ?_)) (congrArg D.int (L.min en))) ?_)
  · intro d hd
    obtain ⟨i, hi, rfl⟩ := List.mem_map.mp hd
    exact ⟨[4], _, _, by simp, fun _ _ _ _ _ => dg_name 4, fun _ _ _ _ _ => de_ixL (de_v 0) (de_ixT (ds := [nD (ed es i).b, nD (ed es i).e, .str (ed es i).w]) (d := nD (ed es i).b) (de_ixL (de_v 1) (de_v 4) (L2.atI_nat (ed_get (hc.r i hi)))) de_int rfl) (L2.atI_nat (dp_get (hn.ok.edB (hc.r i hi)))), rfl⟩
  · rw [List.length_map]; omega
  · rw [dbs_map, en, List.map_cons, List.map_cons, List.map_map]
    rfl
  refine dss_cons (ds_ret (d := .bl true) (de_is (de_not (de_any (bs := c.map (stB dd es t)) T.any (de_is (DO.de (do_lcMap (own := [("index", 4)]) (stD dd es t) (blkOk_by (N := ["depths", "edges", "cycle", "least", "index"]) (sc := defScope sIsStuck) (own := [("index", 4)]) (by kernel_rfl)) (di_list (de_v 2)) rfl ?_ ?_)) ?_))) ?_) rfl)
  · intro d hd
    obtain ⟨i, hi, rfl⟩ := List.mem_map.mp hd
    exact ⟨[4], _, _, by simp, fun _ _ _ _ _ => dg_name 4, fun _ _ _ _ _ => de_is (de_and (m := decide ((ed es i).w = rnd)) (n := decide (dp dd (ed es i).b = t)) (de_eqs (de_ixT (ds := [nD (ed es i).b, nD (ed es i).e, .str (ed es i).w]) (d := .str (ed es i).w) (de_ixL (de_v 1) (de_v 4) (L2.atI_nat (ed_get (hc.r i hi)))) de_int rfl) de_str)
      fun _ => de_one (de_is (de_eqi (de_ixL (de_v 0) (de_ixT (ds := [nD (ed es i).b, nD (ed es i).e, .str (ed es i).w]) (d := nD (ed es i).b) (de_ixL (de_v 1) (de_v 4) (L2.atI_nat (ed_get (hc.r i hi)))) de_int rfl) (L2.atI_nat (dp_get (hn.ok.edB (hc.r i hi))))) (de_v 3)) (congrArg D.bl (by rw [decide_eq_decide]; omega)))) rfl, rfl⟩
  · rw [List.length_map]; omega
  · rw [List.map_map, List.map_map]
    rfl
  · have z : (c.map (stB dd es t)).any id = false := by
      rw [List.any_map, List.any_eq_false]
      intro i hi
      show ¬ stB dd es t i = true
      rw [L.off hi]
      decide
    rw [z]
    rfl
end
end Gr

/-! part Gm8 -/
namespace Gr
open PySem
/-! all cycles of a network by a stack of ways -/
abbrev bgL (es : List Ed) (c : List Nat) : List Nat := c.map fun i => (ed es i).b
abbrev endW (es : List Ed) (c : List Nat) : Nat := (ed es (c.getLastD 0)).e
abbrev outE (es : List Ed) (v : Nat) : List Nat := (List.range es.length).filter fun i => decide ((ed es i).b = v)
structure Dfs where
  ws : List (List Nat)
  fd : List (List Nat)
def dstep (es : List Ed) (first : Nat) (x : Dfs) : Dfs :=
  match x.ws.getLast? with
  | none => x
  | some w => if endW es w = first then ⟨x.ws.dropLast, x.fd ++ [w]⟩ else if first < endW es w ∧ endW es w ∉ bgL es w then ⟨x.ws.dropLast ++ (outE es (endW es w)).map fun i => w ++ [i], x.fd⟩ else ⟨x.ws.dropLast, x.fd⟩
def dstart (es : List Ed) (first : Nat) : Dfs := ⟨(outE es first).map fun i => [i], []⟩
def dit (es : List Ed) (first : Nat) : Nat → Dfs
  | 0 => dstart es first
  | k + 1 => dstep es first (dit es first k)
/-- a way from first by places that are not below it -/
structure WayOk (es : List Ed) (first : Nat) (c : List Nat) : Prop where
  ne : c ≠ []
  pa : Path es first c (endW es c)
  r : ∀ i ∈ c, i < es.length
  nd : (bgL es c).Nodup
  ge : ∀ v ∈ bgL es c, first ≤ v
/-- a cycle, begun at its least place -/
structure CycF (es : List Ed) (first : Nat) (c : List Nat) : Prop where
  w : WayOk es first c
  en : endW es c = first
/-- edges from places that are not on the way -/
theorem Path.app2 {es : List Ed} {b d : Nat} {c2 : List Nat} : ∀ {a : Nat} {c : List Nat}, Path es a c b → Path es b c2 d → Path es a (c ++ c2) d
  | a, [], h, h2 => by
    have z : a = b := h
    rw [z]
    exact h2
  | a, i :: c, h, h2 => ⟨h.1, Path.app2 h.2 h2⟩
/-- edges from places that are not on the way -/
def restN (es : List Ed) (c : List Nat) : Nat := ((List.range es.length).filter fun i => decide ((ed es i).b ∉ bgL es c)).length
def wtL (es : List Ed) (ws : List (List Nat)) : Nat := (ws.map fun w => 2 ^ restN es w).sum
theorem endW_snoc {es : List Ed} {c : List Nat} {i : Nat} : endW es (c ++ [i]) = (ed es i).e := by
  show (ed es ((c ++ [i]).getLastD 0)).e = _
  rw [List.getLastD_eq_getLast?, List.getLast?_append]
  rfl
theorem WayOk.next {es : List Ed} {first : Nat} {c : List Nat} {i : Nat} (h : WayOk es first c) (h1 : first < endW es c) (h2 : endW es c ∉ bgL es c) (hi : i ∈ outE es (endW es c)) : WayOk es first (c ++ [i]) := by
  obtain ⟨i1, i2⟩ := List.mem_filter.mp hi
  have e := of_decide_eq_true i2
  have eb : bgL es (c ++ [i]) = bgL es c ++ [endW es c] := by
    show (c ++ [i]).map _ = _
    rw [List.map_append, List.map_cons, List.map_nil, e]
  refine ⟨by simp, ?_, fun j hj => ?_, ?_, fun v hv => ?_⟩
  · rw [endW_snoc]
    exact h.pa.snoc e
  · rcases List.mem_append.mp hj with z | z
    · exact h.r j z
    · rw [List.mem_singleton.mp z]
      exact List.mem_range.mp i1
  · rw [eb]
    refine List.nodup_append.mpr ⟨h.nd, by simp, fun a ha b hb z => ?_⟩
    rw [List.mem_singleton.mp hb] at z
    exact h2 (z ▸ ha)
  · rw [eb] at hv
    rcases List.mem_append.mp hv with z | z
    · exact h.ge v z
    · rw [List.mem_singleton.mp z]
      omega
theorem pow_step {d r : Nat} (h : d ≤ r) : d * 2 ^ (r - d) + 1 ≤ 2 ^ r := by
  have h1 : d + 1 ≤ 2 ^ d := Nat.succ_le_of_lt Nat.lt_two_pow_self
  have h2 : (d + 1) * 2 ^ (r - d) ≤ 2 ^ d * 2 ^ (r - d) := Nat.mul_le_mul_right _ h1
  have h3 : 2 ^ d * 2 ^ (r - d) = 2 ^ r := by rw [← Nat.pow_add]; congr 1; omega
  have h4 : 1 ≤ 2 ^ (r - d) := Nat.one_le_two_pow
  rw [h3, Nat.add_mul, Nat.one_mul] at h2
  omega
theorem wt_app {es : List Ed} {a b : List (List Nat)} : wtL es (a ++ b) = wtL es a + wtL es b := by
  unfold wtL
  rw [List.map_append, List.sum_append]
theorem wt_one {es : List Ed} {w : List Nat} : wtL es [w] = 2 ^ restN es w := by
  unfold wtL
  simp
theorem wt_len {es : List Ed} : ∀ {ws : List (List Nat)}, ws.length ≤ wtL es ws
  | [] => Nat.zero_le _
  | w :: ws => by
    have ih := wt_len (es := es) (ws := ws)
    have e : wtL es (w :: ws) = 2 ^ restN es w + wtL es ws := by
      unfold wtL
      rw [List.map_cons, List.sum_cons]
    have : 1 ≤ 2 ^ restN es w := Nat.one_le_two_pow
    rw [List.length_cons, e]
    omega
theorem wt_const {es : List Ed} {k : Nat} : ∀ {ws : List (List Nat)}, (∀ w ∈ ws, restN es w = k) → wtL es ws = ws.length * 2 ^ k
  | [], _ => by simp [wtL]
  | w :: ws, h => by
    have ih := wt_const (es := es) (k := k) (ws := ws) fun v hv => h v (List.mem_cons_of_mem _ hv)
    have e : wtL es (w :: ws) = 2 ^ restN es w + wtL es ws := by
      unfold wtL
      rw [List.map_cons, List.sum_cons]
    rw [e, ih, h w (List.mem_cons_self ..), List.length_cons, Nat.add_mul, Nat.one_mul]
    omega
theorem filter_split {α : Type} (p q r : α → Bool) (h : ∀ a, p a = (q a || r a)) (hd : ∀ a, ¬(q a = true ∧ r a = true)) : ∀ l : List α, (l.filter p).length = (l.filter q).length + (l.filter r).length
  | [] => rfl
  | a :: l => by
    have ih := filter_split p q r h hd l
    have ha := h a
    have hda := hd a
    cases hq : q a with
    | true =>
      have hr : r a = false := by
        cases z : r a with
        | false => rfl
        | true => exact absurd ⟨hq, z⟩ hda
      rw [hq, Bool.true_or] at ha
      rw [List.filter_cons_of_pos ha, List.filter_cons_of_pos hq, List.filter_cons_of_neg (by rw [hr]; decide), List.length_cons, List.length_cons, ih]
      omega
    | false =>
      rw [hq, Bool.false_or] at ha
      cases hr : r a with
      | true =>
        rw [hr] at ha
        rw [List.filter_cons_of_pos ha, List.filter_cons_of_neg (by rw [hq]; decide), List.filter_cons_of_pos hr, List.length_cons, List.length_cons, ih]
        omega
      | false =>
        rw [hr] at ha
        rw [List.filter_cons_of_neg (by rw [ha]; decide), List.filter_cons_of_neg (by rw [hq]; decide), List.filter_cons_of_neg (by rw [hr]; decide), ih]
theorem rest_next {es : List Ed} {c : List Nat} {v i : Nat} (hv : v ∉ bgL es c) (hi : (ed es i).b = v) : restN es c = restN es (c ++ [i]) + (outE es v).length := by
  unfold restN
  refine filter_split _ _ _ (fun j => ?_) (fun j z => ?_) _
  · have eb : bgL es (c ++ [i]) = bgL es c ++ [v] := by
      show (c ++ [i]).map _ = _
      rw [List.map_append, List.map_cons, List.map_nil, hi]
    rw [eb, Bool.eq_iff_iff, Bool.or_eq_true]
    simp only [decide_eq_true_eq, List.mem_append, List.mem_singleton, not_or]
    constructor
    · intro z
      by_cases e : (ed es j).b = v
      · exact .inr e
      · exact .inl ⟨z, e⟩
    · rintro (z | z)
      · exact z.1
      · rw [z]
        exact hv
  · have eb : bgL es (c ++ [i]) = bgL es c ++ [v] := by
      show (c ++ [i]).map _ = _
      rw [List.map_append, List.map_cons, List.map_nil, hi]
    have z1 := of_decide_eq_true z.1
    have z2 := of_decide_eq_true z.2
    rw [eb] at z1
    exact z1 (List.mem_append_right _ (List.mem_singleton.mpr z2))
theorem out_wt {es : List Ed} {c : List Nat} {v : Nat} (hv : v ∉ bgL es c) : wtL es ((outE es v).map fun i => c ++ [i]) + 1 ≤ 2 ^ restN es c := by
  by_cases h0 : outE es v = []
  · rw [h0]
    show 0 + 1 ≤ _
    have : 1 ≤ 2 ^ restN es c := Nat.one_le_two_pow
    omega
  · have hd : ∀ i ∈ outE es v, restN es c = restN es (c ++ [i]) + (outE es v).length := fun i hi => rest_next hv (of_decide_eq_true (List.mem_filter.mp hi).2)
    have hle : (outE es v).length ≤ restN es c := by
      cases hL : outE es v with
      | nil => exact absurd hL h0
      | cons i l =>
        have z := hd i (by rw [hL]; exact List.mem_cons_self ..)
        rw [hL] at z
        omega
    rw [wt_const (k := restN es c - (outE es v).length) fun w hw => by
      obtain ⟨i, hi, rfl⟩ := List.mem_map.mp hw
      have z := hd i hi
      omega, List.length_map]
    exact pow_step hle
/-- what holds through the search -/
structure DfsOk (es : List Ed) (first : Nat) (x : Dfs) : Prop where
  ws : ∀ w ∈ x.ws, WayOk es first w
  fd : ∀ w ∈ x.fd, CycF es first w
  all : ∀ c, CycF es first c → c ∈ x.fd ∨ ∃ w ∈ x.ws, w <+: c
  wt : x.fd.length + wtL es x.ws ≤ 2 ^ es.length
theorem getLast_eq {α : Type} {l : List α} {w : α} (h : l.getLast? = some w) : l = l.dropLast ++ [w] := by
  have hne : l ≠ [] := fun z => by rw [z] at h; cases h
  rw [List.getLast?_eq_some_getLast hne] at h
  have e := Option.some.inj h
  rw [← e]
  exact (List.dropLast_concat_getLast hne).symm
theorem wt_last {es : List Ed} {ws : List (List Nat)} {w : List Nat} (h : ws.getLast? = some w) : wtL es ws = wtL es ws.dropLast + 2 ^ restN es w := by
  have e := getLast_eq h
  calc wtL es ws = wtL es (ws.dropLast ++ [w]) := by rw [← e]
    _ = _ := by rw [wt_app, wt_one]
theorem dstep_wt {es : List Ed} {first : Nat} {x : Dfs} {w : List Nat} (h : x.ws.getLast? = some w) : wtL es (dstep es first x).ws < wtL es x.ws := by
  have hw := wt_last (es := es) h
  have h1 : 1 ≤ 2 ^ restN es w := Nat.one_le_two_pow
  unfold dstep
  rw [h]
  dsimp only
  by_cases c1 : endW es w = first
  · rw [if_pos c1]
    dsimp only
    omega
  · rw [if_neg c1]
    by_cases c2 : first < endW es w ∧ endW es w ∉ bgL es w
    · rw [if_pos c2]
      dsimp only
      have z := out_wt (es := es) (c := w) c2.2
      rw [wt_app]
      omega
    · rw [if_neg c2]
      dsimp only
      omega
theorem path_last {es : List Ed} {b : Nat} : ∀ {a : Nat} {c : List Nat}, c ≠ [] → Path es a c b → endW es c = b
  | a, [], h, _ => absurd rfl h
  | a, [i], _, hp => hp.2
  | a, i :: j :: c, _, hp => by
    have ih := path_last (c := j :: c) (by simp) hp.2
    show (ed es ((i :: j :: c).getLastD 0)).e = b
    rw [List.getLastD_eq_getLast?, List.getLast?_cons_cons, ← List.getLastD_eq_getLast?]
    exact ih
theorem path_split {es : List Ed} {b : Nat} : ∀ {a : Nat} {c d : List Nat}, Path es a (c ++ d) b → ∃ m, Path es a c m ∧ Path es m d b
  | a, [], d, h => ⟨a, rfl, h⟩
  | a, i :: c, d, h => by
    obtain ⟨m, h1, h2⟩ := path_split (c := c) (d := d) h.2
    exact ⟨m, ⟨h.1, h1⟩, h2⟩
theorem dstep_ok {es : List Ed} {first : Nat} {x : Dfs} (h : DfsOk es first x) : DfsOk es first (dstep es first x) := by
  cases hl : x.ws.getLast? with
  | none =>
    unfold dstep
    rw [hl]
    exact h
  | some w =>
    have e := getLast_eq hl
    have hw := wt_last (es := es) hl
    have h1 : 1 ≤ 2 ^ restN es w := Nat.one_le_two_pow
    have hwt := h.wt
    have okw := h.ws w (by rw [e]; exact List.mem_append_right _ (List.mem_singleton.mpr rfl))
    have okd : ∀ v ∈ x.ws.dropLast, WayOk es first v := fun v hv => h.ws v (List.dropLast_subset _ hv)
    have all' : ∀ c, CycF es first c → c ∈ x.fd ∨ (∃ v ∈ x.ws.dropLast, v <+: c) ∨ w <+: c := fun c hc => by
      rcases h.all c hc with z | ⟨v, hv, z⟩
      · exact .inl z
      · rw [e] at hv
        rcases List.mem_append.mp hv with y | y
        · exact .inr (.inl ⟨v, y, z⟩)
        · rw [List.mem_singleton.mp y] at z
          exact .inr (.inr z)
    unfold dstep
    rw [hl]
    dsimp only
    -- a prefix of a cycle that is not the whole goes on
    have goes : ∀ c, CycF es first c → w <+: c → (c = w ∧ endW es w = first) ∨ ∃ i l, c = w ++ i :: l ∧ (ed es i).b = endW es w ∧ first < endW es w ∧ endW es w ∉ bgL es w ∧ i < es.length := fun c hc ⟨l, hp⟩ => by
      cases l with
      | nil =>
        rw [List.append_nil] at hp
        exact .inl ⟨hp.symm, by rw [hp]; exact hc.en⟩
      | cons i l =>
        refine .inr ⟨i, l, hp.symm, ?_⟩
        have pa := hc.w.pa
        rw [← hp] at pa
        obtain ⟨m, p1, p2⟩ := path_split pa
        have em := path_last okw.ne p1
        have eb : (ed es i).b = endW es w := by rw [em]; exact p2.1
        have nd := hc.w.nd
        have ebg : bgL es c = bgL es w ++ (ed es i).b :: bgL es l := by
          rw [← hp]
          show (w ++ i :: l).map _ = _
          rw [List.map_append]
          rfl
        rw [ebg] at nd
        obtain ⟨n1, n2, n3⟩ := List.nodup_append.mp nd
        have hni : endW es w ∉ bgL es w := fun z => n3 _ z _ (List.mem_cons_self ..) eb.symm
        have hge := hc.w.ge (ed es i).b (by rw [ebg]; exact List.mem_append_right _ (List.mem_cons_self ..))
        have hfw : first ∈ bgL es w := by
          have hne := okw.ne
          have hpw := okw.pa
          cases w with
          | nil => exact absurd rfl hne
          | cons j w =>
            show first ∈ (ed es j).b :: _
            rw [hpw.1]
            exact List.mem_cons_self ..
        refine ⟨eb, ?_, hni, hc.w.r i (by rw [← hp]; exact List.mem_append_right _ (List.mem_cons_self ..))⟩
        have hne : endW es w ≠ first := fun z => hni (by rw [z]; exact hfw)
        omega
    by_cases c1 : endW es w = first
    · rw [if_pos c1]
      refine ⟨okd, fun v hv => ?_, fun c hc => ?_, ?_⟩
      · rcases List.mem_append.mp hv with z | z
        · exact h.fd v z
        · rw [List.mem_singleton.mp z]
          exact ⟨okw, c1⟩
      · rcases all' c hc with z | z | z
        · exact .inl (List.mem_append_left _ z)
        · exact .inr z
        · rcases goes c hc z with ⟨y, _⟩ | ⟨i, l, _, _, y, _⟩
          · exact .inl (List.mem_append_right _ (List.mem_singleton.mpr y))
          · omega
      · show (x.fd ++ [w]).length + wtL es x.ws.dropLast ≤ _
        rw [List.length_append, List.length_singleton]
        omega
    · rw [if_neg c1]
      by_cases c2 : first < endW es w ∧ endW es w ∉ bgL es w
      · rw [if_pos c2]
        have z0 := out_wt (es := es) (c := w) c2.2
        refine ⟨fun v hv => ?_, h.fd, fun c hc => ?_, ?_⟩
        · rcases List.mem_append.mp hv with z | z
          · exact okd v z
          · obtain ⟨i, hi, rfl⟩ := List.mem_map.mp z
            exact okw.next c2.1 c2.2 hi
        · rcases all' c hc with z | ⟨v, hv, z⟩ | z
          · exact .inl z
          · exact .inr ⟨v, List.mem_append_left _ hv, z⟩
          · rcases goes c hc z with ⟨_, y⟩ | ⟨i, l, e1, e2, _, _, e5⟩
            · exact absurd y c1
            · exact .inr ⟨w ++ [i], List.mem_append_right _ (List.mem_map.mpr ⟨i, List.mem_filter.mpr ⟨List.mem_range.mpr e5, decide_eq_true e2⟩, rfl⟩), l, by rw [e1, List.append_assoc]; rfl⟩
        · show x.fd.length + wtL es (x.ws.dropLast ++ _) ≤ _
          rw [wt_app]
          omega
      · rw [if_neg c2]
        refine ⟨okd, h.fd, fun c hc => ?_, ?_⟩
        · rcases all' c hc with z | z | z
          · exact .inl z
          · exact .inr z
          · rcases goes c hc z with ⟨_, y⟩ | ⟨i, l, _, _, y1, y2, _⟩
            · exact absurd y c1
            · exact absurd ⟨y1, y2⟩ c2
        · show x.fd.length + wtL es x.ws.dropLast ≤ _
          omega
theorem dstart_ok {es : List Ed} {first : Nat} : DfsOk es first (dstart es first) := by
  refine ⟨fun w hw => ?_, fun w hw => by simp [dstart] at hw, fun c hc => ?_, ?_⟩
  · obtain ⟨i, hi, rfl⟩ := List.mem_map.mp hw
    obtain ⟨i1, i2⟩ := List.mem_filter.mp hi
    have e := of_decide_eq_true i2
    exact ⟨by simp, ⟨e, rfl⟩, fun j hj => by rw [List.mem_singleton.mp hj]; exact List.mem_range.mp i1, by simp, fun v hv => by
      rw [List.mem_singleton.mp hv]
      exact Nat.le_of_eq e.symm⟩
  · have hne := hc.w.ne
    have hp := hc.w.pa
    have hr := hc.w.r
    cases c with
    | nil => exact absurd rfl hne
    | cons i c => exact .inr ⟨[i], List.mem_map.mpr ⟨i, List.mem_filter.mpr ⟨List.mem_range.mpr (hr i (List.mem_cons_self ..)), decide_eq_true hp.1⟩, rfl⟩, c, rfl⟩
  · show 0 + wtL es ((outE es first).map fun i => [] ++ [i]) ≤ _
    have z := out_wt (es := es) (c := []) (v := first) (by simp)
    have r0 : restN es [] ≤ es.length := by
      unfold restN
      exact Nat.le_trans (List.length_filter_le _ _) (by rw [List.length_range]; exact Nat.le_refl _)
    have := Nat.pow_le_pow_right (n := 2) (by decide) r0
    omega
theorem dit_ok {es : List Ed} {first : Nat} : ∀ k, DfsOk es first (dit es first k)
  | 0 => dstart_ok
  | k + 1 => dstep_ok (dit_ok k)
theorem dit_wt {es : List Ed} {first : Nat} : ∀ k, (dit es first k).ws = [] ∨ wtL es (dit es first k).ws + k ≤ 2 ^ es.length
  | 0 => .inr (by have := (dit_ok (es := es) (first := first) 0).wt; omega)
  | k + 1 => by
    cases hl : (dit es first k).ws.getLast? with
    | none =>
      refine .inl ?_
      show (dstep es first (dit es first k)).ws = []
      unfold dstep
      rw [hl]
      exact List.getLast?_eq_none_iff.mp hl
    | some w =>
      have z := dstep_wt (es := es) (first := first) hl
      rcases dit_wt (es := es) (first := first) k with h | h
      · rw [h] at hl
        cases hl
      · refine .inr ?_
        show wtL es (dstep es first (dit es first k)).ws + (k + 1) ≤ _
        omega
theorem dit_stay {es : List Ed} {first k : Nat} (h : (dit es first k).ws = []) : ∀ j, dit es first (k + j) = dit es first k
  | 0 => rfl
  | j + 1 => by
    show dstep es first (dit es first (k + j)) = _
    rw [dit_stay h j]
    unfold dstep
    rw [h]
    rfl
/-- the cycles from a least place -/
def cycsF (es : List Ed) (first : Nat) : List (List Nat) := (dit es first (2 ^ es.length + 1)).fd
theorem dit_end {es : List Ed} {first : Nat} : (dit es first (2 ^ es.length + 1)).ws = [] := by
  rcases dit_wt (es := es) (first := first) (2 ^ es.length + 1) with h | h
  · exact h
  · omega
theorem cycsF_at {es : List Ed} {first k : Nat} (h : (dit es first k).ws = []) : (dit es first k).fd = cycsF es first := by
  unfold cycsF
  rcases Nat.le_total k (2 ^ es.length + 1) with z | z
  · have e := dit_stay h (2 ^ es.length + 1 - k)
    rw [show k + (2 ^ es.length + 1 - k) = 2 ^ es.length + 1 by omega] at e
    rw [e]
  · have e := dit_stay (dit_end (es := es) (first := first)) (k - (2 ^ es.length + 1))
    rw [show 2 ^ es.length + 1 + (k - (2 ^ es.length + 1)) = k by omega] at e
    rw [e]
theorem cycsF_len {es : List Ed} {first : Nat} : (cycsF es first).length ≤ 2 ^ es.length := by
  have := (dit_ok (es := es) (first := first) (2 ^ es.length + 1)).wt
  unfold cycsF
  omega
theorem mem_cycsF {es : List Ed} {first : Nat} {c : List Nat} : c ∈ cycsF es first ↔ CycF es first c := by
  constructor
  · exact (dit_ok _).fd c
  · intro h
    rcases (dit_ok (es := es) (first := first) (2 ^ es.length + 1)).all c h with z | ⟨w, hw, _⟩
    · exact z
    · rw [dit_end] at hw
      cases hw
def cycs (es : List Ed) (n : Nat) : List (List Nat) := (List.range n).flatMap (cycsF es)
theorem mem_cycs {es : List Ed} {n : Nat} {c : List Nat} : c ∈ cycs es n ↔ ∃ first < n, CycF es first c := by
  unfold cycs
  rw [List.mem_flatMap]
  constructor
  · rintro ⟨f, hf, h⟩
    exact ⟨f, List.mem_range.mp hf, mem_cycsF.mp h⟩
  · rintro ⟨f, hf, h⟩
    exact ⟨f, List.mem_range.mpr hf, mem_cycsF.mpr h⟩
end Gr

/-! part Hx1 -/
set_option pp.maxSteps 400
namespace Gr
open PySem PySem.Spec PyProof.Rows L2 Dy Kk
/-! cycles, stuck cycles of any values -/
def cycB (es : List Ed) (c : List Nat) : Bool := decide (bgs es c = (ens es c).drop (c.length - 1) ++ (ens es c).take (c.length - 1)) && decide ((bgs es c).Nodup)
def stuckB (dd : List Nat) (es : List Ed) (c : List Nat) : Bool := c.all fun i => !(decide ((ed es i).w = rnd) && c.all fun j => decide (dp dd (ed es i).b ≤ dp dd (ed es j).b))
/-- numbers from lo to hi -/
def numB (lo hi : Int) : D → Bool
  | .int i => decide (lo ≤ i) && decide (i ≤ hi)
  | _ => false
abbrev inR (m : Nat) : D → Bool := numB 0 ((m : Int) - 1)
def natsOf (ds : List D) : List Nat := ds.map fun
  | .int i => i.toNat
  | _ => 0
def natsD : D → List Nat
  | .lst ds => natsOf ds
  | _ => []
def cycV (es : List Ed) : D → Bool
  | .lst ds => !ds.isEmpty && ds.all (inR es.length) && cycB es (natsOf ds)
  | _ => false
def goodV (dd : List Nat) (es : List Ed) (d : D) : Bool := cycV es d && stuckB dd es (natsD d)
theorem nats_self (c : List Nat) : natsOf (c.map nD) = c := by
  unfold natsOf
  rw [List.map_map]
  have e : (((fun | .int i => i.toNat | _ => 0) : D → Nat) ∘ nD) = id := by
    funext n
    exact Int.toNat_natCast n
  rw [e, List.map_id]
theorem inR_all {m : Nat} : ∀ {ds : List D}, ds.all (inR m) = true → ds = (natsOf ds).map nD ∧ ∀ i ∈ natsOf ds, i < m
  | [], _ => ⟨rfl, fun i hi => by cases hi⟩
  | d :: ds, h => by
    rw [List.all_cons, Bool.and_eq_true] at h
    obtain ⟨h1, h2⟩ := inR_all h.2
    cases d with
    | int i =>
      have hz : (decide (0 ≤ i) && decide (i ≤ (m : Int) - 1)) = true := h.1
      rw [Bool.and_eq_true] at hz
      have z1 := of_decide_eq_true hz.1
      have z2 := of_decide_eq_true hz.2
      constructor
      · show D.int i :: ds = D.int (i.toNat : Int) :: (natsOf ds).map nD
        rw [← h1, show ((i.toNat : Nat) : Int) = i by omega]
      · intro j hj
        rcases List.mem_cons.mp (show j ∈ i.toNat :: natsOf ds from hj) with e | e
        · rw [e]; omega
        · exact h2 j e
    | _ => cases h.1
theorem all_inR {m : Nat} {c : List Nat} (h : ∀ i ∈ c, i < m) : (c.map nD).all (inR m) = true := by
  rw [List.all_map, List.all_eq_true]
  intro i hi
  have := h i hi
  show (decide ((0 : Int) ≤ (i : Int)) && decide ((i : Int) ≤ (m : Int) - 1)) = true
  rw [decide_eq_true (by omega), decide_eq_true (by omega)]
  rfl
/-- a list of numbers of edges -/
theorem cycV_ns {es : List Ed} {c : List Nat} (hn : c ≠ []) (h : ∀ i ∈ c, i < es.length) : cycV es (nsD c) = cycB es c := by
  show (!(c.map nD).isEmpty && (c.map nD).all (inR es.length) && cycB es (natsOf (c.map nD))) = _
  rw [all_inR h, nats_self]
  cases c with
  | nil => exact absurd rfl hn
  | cons i c => rfl
theorem cycB_iff {es : List Ed} {c : List Nat} (hn : c ≠ []) (h : ∀ i ∈ c, i < es.length) : cycB es c = true ↔ CycL es c := by
  unfold cycB
  rw [Bool.and_eq_true, decide_eq_true_eq, decide_eq_true_eq]
  exact ⟨fun z => ⟨hn, h, z.1, z.2⟩, fun z => ⟨z.rot, z.nd⟩⟩
theorem cycV_cyc {es : List Ed} {d : D} (h : cycV es d = true) : d = nsD (natsD d) ∧ CycL es (natsD d) := by
  cases d with
  | lst ds =>
    have h' : (!ds.isEmpty && ds.all (inR es.length) && cycB es (natsOf ds)) = true := h
    rw [Bool.and_eq_true, Bool.and_eq_true] at h'
    obtain ⟨⟨h1, h2⟩, h3⟩ := h'
    obtain ⟨e, hr⟩ := inR_all h2
    have hn : natsOf ds ≠ [] := fun z => by
      rw [z] at e
      rw [e] at h1
      cases h1
    exact ⟨congrArg D.lst e, (cycB_iff hn hr).mp h3⟩
  | _ => cases h
/-- the least depth -/
theorem least_at {dd : List Nat} {es : List Ed} : ∀ {c : List Nat}, c ≠ [] → ∃ t, (∃ i ∈ c, dp dd (ed es i).b = t) ∧ ∀ i ∈ c, t ≤ dp dd (ed es i).b
  | [], h => absurd rfl h
  | [i], _ => ⟨_, ⟨i, List.mem_singleton.mpr rfl, rfl⟩, fun j hj => by rw [List.mem_singleton.mp hj]; exact Nat.le_refl _⟩
  | i :: j :: c, _ => by
    obtain ⟨t, ⟨k, hk, ek⟩, h2⟩ := least_at (c := j :: c) (dd := dd) (es := es) (by simp)
    by_cases hlt : dp dd (ed es i).b ≤ t
    · refine ⟨dp dd (ed es i).b, ⟨i, List.mem_cons_self .., rfl⟩, fun l hl => ?_⟩
      rcases List.mem_cons.mp hl with rfl | hl
      · exact Nat.le_refl _
      · exact Nat.le_trans hlt (h2 l hl)
    · refine ⟨t, ⟨k, List.mem_cons_of_mem _ hk, ek⟩, fun l hl => ?_⟩
      rcases List.mem_cons.mp hl with rfl | hl
      · omega
      · exact h2 l hl
theorem stuckB_at {dd : List Nat} {es : List Ed} {c : List Nat} {t : Nat} (h1 : ∃ i ∈ c, dp dd (ed es i).b = t) (h2 : ∀ i ∈ c, t ≤ dp dd (ed es i).b) : stuckB dd es c = c.all fun i => !stB dd es t i := by
  unfold stuckB
  rw [Bool.eq_iff_iff, List.all_eq_true, List.all_eq_true]
  obtain ⟨k, hk, ek⟩ := h1
  have e : ∀ i ∈ c, (decide ((ed es i).w = rnd) && c.all fun j => decide (dp dd (ed es i).b ≤ dp dd (ed es j).b)) = stB dd es t i := fun i hi => by
    unfold stB
    congr 1
    rw [Bool.eq_iff_iff, List.all_eq_true, decide_eq_true_eq]
    constructor
    · intro h
      have z1 := of_decide_eq_true (h k hk)
      have z2 := h2 i hi
      omega
    · intro h j hj
      rw [h]
      exact decide_eq_true (h2 j hj)
  constructor <;> intro h i hi
  · rw [← e i hi]
    exact h i hi
  · have z := h i hi
    rw [← e i hi] at z
    exact z
theorem stuckB_iff {dd : List Nat} {es : List Ed} {c : List Nat} (hc : CycL es c) : stuckB dd es c = true ↔ StL dd es c := by
  obtain ⟨t, h1, h2⟩ := least_at (dd := dd) (es := es) hc.ne
  rw [stuckB_at h1 h2, List.all_eq_true]
  have key : ∀ i, (!stB dd es t i) = true ↔ ¬((ed es i).w = rnd ∧ dp dd (ed es i).b = t) := fun i => by
    unfold stB
    rw [Bool.not_eq_true', Bool.and_eq_false_iff, decide_eq_false_iff_not, decide_eq_false_iff_not]
    constructor
    · rintro (z | z) ⟨a, b⟩
      · exact z a
      · exact z b
    · intro z
      by_cases a : (ed es i).w = rnd
      · exact .inr fun b => z ⟨a, b⟩
      · exact .inl a
  constructor
  · intro h
    exact ⟨hc, t, h1, h2, fun i hi => (key i).mp (h i hi)⟩
  · rintro ⟨_, t', ⟨k, hk, ek⟩, g2, g3⟩ i hi
    have et : t' = t := by
      obtain ⟨m, hm, em⟩ := h1
      have a1 := h2 k hk
      have a2 := g2 m hm
      omega
    subst et
    exact (key i).mpr (g3 i hi)
theorem dup_short : ∀ {m : List Int}, ¬ m.Nodup → ∃ m' : List Int, m'.length < m.length ∧ ∀ x ∈ m, x ∈ m'
  | [], h => absurd List.nodup_nil h
  | a :: m, h => by
    by_cases ha : a ∈ m
    · exact ⟨m, Nat.lt_succ_self _, fun x hx => by
        rcases List.mem_cons.mp hx with rfl | z
        · exact ha
        · exact z⟩
    · obtain ⟨m', h1, h2⟩ := dup_short (m := m) fun z => h (List.nodup_cons.mpr ⟨ha, z⟩)
      exact ⟨a :: m', Nat.succ_lt_succ h1, fun x hx => by
        rcases List.mem_cons.mp hx with rfl | z
        · exact List.mem_cons_self ..
        · exact List.mem_cons_of_mem _ (h2 x z)⟩
theorem usort_dec (ns : List Int) : decide ((usort ns).length = ns.length) = decide ns.Nodup := by
  rw [decide_eq_decide]
  constructor
  · intro h
    refine Decidable.byContradiction fun z => ?_
    obtain ⟨m', h1, h2⟩ := dup_short z
    have y := nodup_subI (m := m') (usort_nodup ns) fun x hx => h2 x (mem_usort.mp hx)
    omega
  · exact usort_len_nd
theorem nodup_cast (c : List Nat) : (c.map fun n : Nat => (n : Int)).Nodup ↔ c.Nodup := by
  constructor
  · intro h
    have z : (c.map fun n : Nat => (n : Int)).Pairwise (· ≠ ·) := h
    exact (List.pairwise_map.mp z).imp fun {a b} h e => h (by rw [e])
  · intro h
    refine List.Pairwise.map _ (fun a b h z => h ?_) h
    exact Int.ofNat.inj z
/-! the law's cycles and the program's -/
theorem path_end {es : List Ed} {b : Nat} : ∀ {a : Nat} {c : List Nat}, c ≠ [] → Path es a c b → ∀ i ∈ c, (ed es i).e = b ∨ ∃ j ∈ c, (ed es j).b = (ed es i).e
  | a, [], h, _ => absurd rfl h
  | a, [i], _, hp => fun j hj => by
    rw [List.mem_singleton.mp hj]
    exact .inl hp.2
  | a, i :: k :: c, _, hp => fun j hj => by
    rcases List.mem_cons.mp hj with rfl | hj
    · exact .inr ⟨k, List.mem_cons_of_mem _ (List.mem_cons_self ..), hp.2.1⟩
    · rcases path_end (c := k :: c) (by simp) hp.2 j hj with z | ⟨l, hl, z⟩
      · exact .inl z
      · exact .inr ⟨l, List.mem_cons_of_mem _ hl, z⟩
/-- a closed way, begun at another of its places -/
theorem path_turn {es : List Ed} {a : Nat} {c : List Nat} (hp : Path es a c a) {i : Nat} (hi : i ∈ c) : ∃ c', c'.Perm c ∧ c' ≠ [] ∧ Path es (ed es i).b c' (ed es i).b := by
  obtain ⟨l, r, e⟩ := List.append_of_mem hi
  rw [e] at hp
  obtain ⟨m, h1, h2⟩ := path_split hp
  have hm : m = (ed es i).b := h2.1.symm
  subst hm
  refine ⟨(i :: r) ++ l, ?_, by simp, Path.app2 h2 h1⟩
  rw [e]
  exact List.perm_append_comm
theorem CycF.cyc {es : List Ed} {f : Nat} {c : List Nat} (h : CycF es f c) : CycL es c := by
  have hp := h.w.pa
  rw [h.en] at hp
  obtain ⟨h1, h2⟩ := path_rot h.w.ne hp
  exact ⟨h.w.ne, h.w.r, by rw [h1, h2]; rfl, h.w.nd⟩
theorem perm_all {α : Type} {l m : List α} (h : l.Perm m) (p : α → Bool) : l.all p = m.all p := by
  rw [Bool.eq_iff_iff, List.all_eq_true, List.all_eq_true]
  exact ⟨fun z x hx => z x (h.mem_iff.mpr hx), fun z x hx => z x (h.mem_iff.mp hx)⟩
theorem stuckB_perm {dd : List Nat} {es : List Ed} {c c' : List Nat} (h : c.Perm c') : stuckB dd es c = stuckB dd es c' := by
  unfold stuckB
  have e : (fun i => !(decide ((ed es i).w = rnd) && c.all fun j => decide (dp dd (ed es i).b ≤ dp dd (ed es j).b))) = fun i => !(decide ((ed es i).w = rnd) && c'.all fun j => decide (dp dd (ed es i).b ≤ dp dd (ed es j).b)) := by
    funext i
    rw [perm_all h]
  rw [e, perm_all h]
theorem least_start {es : List Ed} : ∀ {c : List Nat}, c ≠ [] → ∃ i ∈ c, ∀ j ∈ c, (ed es i).b ≤ (ed es j).b
  | [], h => absurd rfl h
  | [i], _ => ⟨i, List.mem_singleton.mpr rfl, fun j hj => by rw [List.mem_singleton.mp hj]; exact Nat.le_refl _⟩
  | i :: j :: c, _ => by
    obtain ⟨k, hk, h2⟩ := least_start (c := j :: c) (es := es) (by simp)
    by_cases hlt : (ed es i).b ≤ (ed es k).b
    · refine ⟨i, List.mem_cons_self .., fun l hl => ?_⟩
      rcases List.mem_cons.mp hl with rfl | hl
      · exact Nat.le_refl _
      · exact Nat.le_trans hlt (h2 l hl)
    · refine ⟨k, List.mem_cons_of_mem _ hk, fun l hl => ?_⟩
      rcases List.mem_cons.mp hl with rfl | hl
      · omega
      · exact h2 l hl
/-- the stuck ones among all cycles -/
def dueL (dd : List Nat) (es : List Ed) : List (List Nat) := (cycs es dd.length).filter (stuckB dd es)
theorem due_iff {dd : List Nat} {es : List Ed} (hn : NetOk dd es) : stuckC dd es = none ↔ dueL dd es = [] := by
  constructor
  · intro hs
    refine List.filter_eq_nil_iff.mpr fun c hc hb => ?_
    obtain ⟨f, hf, hF⟩ := mem_cycs.mp hc
    have cl := hF.cyc
    obtain ⟨_, t, ⟨i, hi, ei⟩, t2, t3⟩ := (stuckB_iff cl).mp hb
    have hp := hF.w.pa
    rw [hF.en] at hp
    obtain ⟨c', pm, ne, hp'⟩ := path_turn hp hi
    refine stuckC_none hn hs (p := (ed es i).b) (hn.edB (cl.r i hi)) ne hp' fun j hj => ?_
    have hj' := pm.mem_iff.mp hj
    refine mem_allowed.mpr ⟨cl.r j hj', by rw [ei]; exact t2 j hj', ?_, by rw [ei]; exact t3 j hj'⟩
    rw [ei]
    rcases path_end ne hp' j hj with z | ⟨k, hk, z⟩
    · rw [z, ei]
      exact Nat.le_refl _
    · rw [← z]
      exact t2 k (pm.mem_iff.mp hk)
  · intro hd
    cases hs : stuckC dd es with
    | none => rfl
    | some c =>
      exfalso
      obtain ⟨t, p, hp, et, ca⟩ := stuckC_some hn hs
      have st := stuckC_stuck hn hs
      have cl := st.cyc
      obtain ⟨i, hi, hmin⟩ := least_start (es := es) cl.ne
      obtain ⟨c', pm, ne, hp'⟩ := path_turn ca.pa hi
      have hF : CycF es (ed es i).b c' := by
        refine ⟨⟨ne, ?_, fun j hj => cl.r j (pm.mem_iff.mp hj), ?_, fun v hv => ?_⟩, path_last ne hp'⟩
        · rw [path_last ne hp']
          exact hp'
        · exact (pm.map fun i => (ed es i).b).nodup_iff.mpr cl.nd
        · obtain ⟨j, hj, rfl⟩ := List.mem_map.mp hv
          exact hmin j (pm.mem_iff.mp hj)
      have hm : c' ∈ dueL dd es := List.mem_filter.mpr ⟨mem_cycs.mpr ⟨_, hn.edB (cl.r i hi), hF⟩, by
        rw [stuckB_perm pm]
        exact (stuckB_iff cl).mpr st⟩
      rw [hd] at hm
      cases hm
end Gr

/-! part Hx2 -/
set_option pp.maxSteps 400
namespace Gr
open PySem PySem.Spec PyProof.Rows L2 Dy Kk
/-- what is_cycle may be asked -/
structure OkV (d : D) : Prop where
  t : ∃ t, tyD d = some t
  r : ∀ ds, d ≠ .rol ds
  l : ∀ ds, d = .lst ds → ds.length ≤ 60 ∧ okD 3 (.lst ds) = true ∧ ∀ x ∈ ds, ∃ t, tyD x = some t
structure EsOk (es : List Ed) : Prop where
  m : es.length ≤ 60
  x : ∀ x ∈ es, x.b < 1000 ∧ x.e < 1000
theorem EsOk.at_ {es : List Ed} (h : EsOk es) {i : Nat} (hi : i < es.length) : (ed es i).b < 1000 ∧ (ed es i).e < 1000 := h.x _ (by
  show es.getD i _ ∈ es
  rw [List.getD_eq_getElem?_getD, List.getElem?_eq_getElem hi, Option.getD_some]
  exact List.getElem_mem hi)
theorem Net.esOk {dd : List Nat} {es : List Ed} (h : Net dd es) : EsOk es := ⟨h.m, fun x hx => by
  have := (h.x x hx).b
  have := (h.x x hx).e
  have := h.n2
  omega⟩
theorem kit_no_list {d : D} {t : String} (h : tyD d = some t) (h1 : ∀ ds, d ≠ .lst ds) (h2 : ∀ ds, d ≠ .rol ds) : kitB t "list" = some false := by
  cases d <;> cases h <;> first | exact absurd rfl (h1 _) | exact absurd rfl (h2 _) | decide +kernel
theorem eqv_nil1 (d : D) (ds : List D) : PyData.eqv (py (.lst (d :: ds))) (py (.lst [])) = false := by
  rfl
theorem cycV_other {es : List Ed} {d : D} (h : ∀ ds, d ≠ .lst ds) : cycV es d = false := by
  cases d <;> first | exact absurd rfl (h _) | rfl
section
variable {P : Program} {w : World} {K : PySem.W.Frag} {mg : Str → Option Value} {base : Heap} {f : Addr} {fd : FuncData}
abbrev cIsNumG : List D → D → Prop := fun ds d => ∃ (x : D) (lo hi : Int), ds = [x, .int lo, .int hi] ∧ (∃ t, tyD x = some t) ∧ d = .bl (numB lo hi x)
theorem is_numberG (F : Df K mg "is_number" sIsNum f fd) (T : Txt mg) : FnG P w K mg base CX0 1 f (spP K cIsNumG) := by
  refine fn_pure F.fn h_sc1 (F.fn.binds fun _ _ _ _ _ _ us hl => match us, hl with | [_, _, _], _ => rfl) (by rintro ds d ⟨_, _, _, rfl, _⟩; rfl) (by decide) fun cdv A outer s H E ds d g ⟨x, lo, hi, e, ⟨t, ht⟩, e'⟩ => ?_
  subst e e'
  by_cases hb : ∃ b, x = .bl b
  · obtain ⟨b, rfl⟩ := hb
    exact dss_cons (ds_ret (de_andT (de_isi T.isinstance T.int "int" PyProof.Rows.boot_int (de_v 0) rfl kit_bool_int) (de_andF (de_is (de_not (de_isi T.isinstance T.bool "bool" PyProof.Rows.boot_bool (de_v 0) rfl kit_bool_bool)) rfl))) rfl)
  · have hk := kit_all_int ht fun b z => hb ⟨b, z⟩
    cases hx : isI x with
    | true =>
      match x, hx with
      | .int v, _ => exact dss_cons (ds_ret (de_andT (de_isi T.isinstance T.int "int" PyProof.Rows.boot_int (de_v 0) rfl kit_int_int) (de_andT (de_is (de_not (de_isi T.isinstance T.bool "bool" PyProof.Rows.boot_bool (de_v 0) rfl kit_int_bool)) rfl) (de_one (de_chain11 (de_v 1) (de_v 0) (de_v 2))))) rfl)
    | false =>
      rw [hx] at hk
      refine dss_cons (ds_ret (d := .bl false) (de_andF (de_isi T.isinstance T.int "int" PyProof.Rows.boot_int (de_v 0) ht hk)) ?_)
      cases x <;> first | rfl | cases hx
abbrev cIsCycG : List D → D → Prop := fun ds d => ∃ (es : List Ed) (v : D), ds = [esD es, v] ∧ EsOk es ∧ OkV v ∧ d = .bl (cycV es v)
theorem is_cycleG (F : Df K mg "is_cycle" sIsCyc f fd) (T : Txt mg) (G : Gn P w K mg base "is_number" 1 (spP K cIsNumG)) : FnG P w K mg base CX0 2 f (spP K cIsCycG) := by
  refine fn_pure F.fn h_sc8 (F.fn.binds fun _ _ _ _ _ _ us hl => match us, hl with | [_, _], _ => rfl) (by rintro ds d ⟨_, _, rfl, _⟩; rfl) (by decide) fun cdv A outer s H E ds d g ⟨es, val, e, he, hv, e'⟩ => ?_
  subst e e'
  have nd := h_sc8.nd
  by_cases hlst : ∃ ds, val = .lst ds
  · obtain ⟨ds, rfl⟩ := hlst
    obtain ⟨hl, hok, hty⟩ := hv.l ds rfl
    cases ds with
    | nil =>
      exact dss_cons (ds_if (m := true) (dt_is (dt_or (dt_not (dt_val (de_isi T.isinstance T.list "list" PyProof.Rows.boot_list (de_v 1) rfl kit_lst_lst))) fun _ => dt_eqNs (c := []) (c' := []) g (de_v 1) (DO.de (do_lst da_nil (by exact Nat.zero_le _))) (fun n hn => by cases hn) (fun n hn => by cases hn)) rfl) (fun _ => dss_cons (ds_ret de_bl rfl)) (fun h => by cases h))
    | cons d0 ds0 =>
      refine dss_cons (ds_if (m := false) (dt_is (dt_or (dt_not (dt_val (de_isi T.isinstance T.list "list" PyProof.Rows.boot_list (de_v 1) rfl kit_lst_lst))) fun _ => dt_eqD (n := 3) g (de_v 1) (DO.de (do_lst da_nil (by exact Nat.zero_le _))) hok rfl) (by rw [eqv_nil1]; rfl)) (fun h => by cases h) (fun _ => dss_nil ?_))
      generalize hdd : d0 :: ds0 = dl at *
      have hne : dl ≠ [] := fun z => by rw [z] at hdd; cases hdd
      refine dss_cons (ds_if (m := !dl.all (inR es.length)) (dt_not (dt_val (de_is (de_all (bs := dl.map (inR es.length)) T.all (de_is (DO.de (do_lcMap (own := [("index", 4)]) (fun d => .bl (inR es.length d)) (blkOk_by (N := ["edges", "value", "ends", "begins", "index"]) (sc := defScope sIsCyc) (own := [("index", 4)]) (by kernel_rfl)) (di_list (de_v 1)) rfl ?_ ?_)) ?_)) ?_))) (fun hm => dss_cons (ds_ret (d := .bl false) de_bl ?_)) (fun hm => dss_nil ?_))
      · intro d hd
        exact ⟨[4], _, _, by simp, fun _ _ _ _ _ => dg_name 4, fun _ _ _ _ _ => de_callN (k' := 1) G ⟨g.rm, g.gd⟩ (da_cons (de_v 4) (da_cons de_int (da_one (de_sub (de_lenL T.len (de_v 0)) de_int)))) ⟨d, 0, _, rfl, hty d hd, by
          rw [List.length_map]⟩, rfl⟩
      · omega
      · rw [List.map_map]
        rfl
      · rw [List.all_map]
        rfl
      · show D.bl false = D.bl (cycV es (.lst dl))
        have hm' : dl.all (inR es.length) = false := by
          cases z : dl.all (inR es.length) with
          | false => rfl
          | true => rw [z] at hm; cases hm
        show D.bl false = D.bl (!dl.isEmpty && dl.all (inR es.length) && cycB es (natsOf dl))
        rw [hm', Bool.and_false, Bool.false_and]
      have hall : dl.all (inR es.length) = true := by
        cases z : dl.all (inR es.length) with
        | true => rfl
        | false => rw [z] at hm; cases hm
      obtain ⟨ec, hr⟩ := inR_all hall
      have hcn : natsOf dl ≠ [] := fun z => by
        rw [z] at ec
        exact hne ec
      have hcl : (natsOf dl).length = dl.length := List.length_map ..
      clear hm hall hok hty hdd
      generalize natsOf dl = c at ec hr hcn hcl
      subst ec
      show DSs _ _ _ _
      have ev : cycV es (nsD c) = cycB es c := cycV_ns hcn hr
      rw [show D.lst (c.map nD) = nsD c from rfl, ev]
      refine dss_cons (ds_lcMap (i := 2) (own := [("index", 4)]) (enD es) rfl (blkOk_by (N := ["edges", "value", "ends", "begins", "index"]) (sc := defScope sIsCyc) (own := [("index", 4)]) (by kernel_rfl)) (di_list (de_v 1)) rfl (fun d hd => by
        obtain ⟨i, hi, rfl⟩ := List.mem_map.mp hd
        exact ⟨[4], _, _, by simp, fun _ _ _ _ _ => dg_name 4, fun _ _ _ _ _ => de_ixT (ds := [nD (ed es i).b, nD (ed es i).e, .str (ed es i).w]) (de_ixL (de_v 0) (de_v 4) (L2.atI_nat (ed_get (hr i hi)))) de_int rfl, rfl⟩) (by omega) fun p2 => ?_)
      rw [ens_map]
      refine dss_frz 2 rfl ?_
      refine dss_cons (ds_lcMap (i := 3) (own := [("index", 4)]) (bgD es) rfl (blkOk_by (N := ["edges", "value", "ends", "begins", "index"]) (sc := defScope sIsCyc) (own := [("index", 4)]) (by kernel_rfl)) (di_list (de_v 1)) rfl (fun d hd => by
        obtain ⟨i, hi, rfl⟩ := List.mem_map.mp hd
        exact ⟨[4], _, _, by simp, fun _ _ _ _ _ => dg_name 4, fun _ _ _ _ _ => de_ixT (ds := [nD (ed es i).b, nD (ed es i).e, .str (ed es i).w]) (de_ixL (de_v 0) (de_v 4) (L2.atI_nat (ed_get (hr i hi)))) de_int rfl, rfl⟩) (by omega) fun p3 => ?_)
      rw [bgs_map]
      refine dss_frz 3 rfl ?_
      have hel : (ens es c).length = c.length := List.length_map ..
      have hbl : (bgs es c).length = c.length := List.length_map ..
      have hb1 : ∀ n ∈ bgs es c, n < 1000 := fun n hn => by
        obtain ⟨i, hi, rfl⟩ := List.mem_map.mp hn
        exact (he.at_ (hr i hi)).1
      have he1 : ∀ n ∈ ens es c, n < 1000 := fun n hn => by
        obtain ⟨i, hi, rfl⟩ := List.mem_map.mp hn
        exact (he.at_ (hr i hi)).2
      refine dss_cons (ds_ret (d := .bl (cycB es c)) (de_and (m := decide (bgs es c = (ens es c).drop (c.length - 1) ++ (ens es c).take (c.length - 1))) (n := decide ((bgs es c).Nodup)) (de_eqNs (c := bgs es c) (c' := (ens es c).drop (c.length - 1) ++ (ens es c).take (c.length - 1)) g (de_v 3) (de_is (DO.de (do_lst (da_starL (DO.de (do_slL (l := some (-1)) (h := none) (de_v 2) (dp_some (de_neg de_int)) dp_none)) (da_starL (DO.de (do_slL (l := none) (h := some (-1)) (de_v 2) dp_none (dp_some (de_neg de_int)))) da_nil)) ?_)) ?_) hb1 ?_)
        fun _ => de_one (de_is (de_eqi (de_is (de_lenSet (ns := (bgs es c).map fun n : Nat => (n : Int)) T.len T.set (de_is (de_v 3) (nsD_ints _)) ?_) rfl) (de_lenL T.len (de_v 3))) ?_)) rfl)
      · rw [cut_last1, cut_init1]
        simp only [List.length_append, List.length_map, List.length_drop, List.length_take, List.length_nil]
        rw [sizeLine_eq]
        omega
      · rw [cut_last1, cut_init1, List.length_map, hel, List.append_nil]
        show _ = D.lst (((ens es c).drop (c.length - 1) ++ (ens es c).take (c.length - 1)).map nD)
        rw [List.map_append, List.map_drop, List.map_take]
      · intro n hn
        rcases List.mem_append.mp hn with z | z
        · exact he1 n (List.mem_of_mem_drop z)
        · exact he1 n (List.mem_of_mem_take z)
      · rw [List.length_map, hbl]
        omega
      · have z := usort_dec ((bgs es c).map fun n : Nat => (n : Int))
        rw [decide_eq_decide.mpr (nodup_cast (bgs es c))] at z
        rw [← z]
        congr 1
        rw [decide_eq_decide]
        simp only [List.length_map]
        omega
  · have hno : ∀ ds, val ≠ .lst ds := fun ds z => hlst ⟨ds, z⟩
    obtain ⟨t, ht⟩ := hv.t
    rw [cycV_other hno]
    exact dss_cons (ds_if (m := true) (dt_is (dt_or (m := true) (n := false) (dt_is (dt_not (dt_val (de_isi T.isinstance T.list "list" PyProof.Rows.boot_list (de_v 1) ht (kit_no_list ht hno hv.r)))) rfl) fun h => by cases h) rfl) (fun _ => dss_cons (ds_ret de_bl rfl)) (fun h => by cases h))
end
end Gr

/-! part Hx3 -/
set_option pp.maxSteps 400
namespace Gr
open PySem PySem.Spec PyProof.Rows L2 Dy Kk
section
variable {X : Cx} {a b : Expr} {δ δ1 δ2 : List Sl} {pos : Pos} {k : Nat} {c c' : List Nat}
theorem dt_neNs (g : Gx X k) (ha : DE X a δ (nsD c) δ1) (hb : DE X b δ1 (nsD c') δ2) (h1 : ∀ n ∈ c, n < 1000) (h2 : ∀ n ∈ c', n < 1000) : DT X (.Compare a [.NotEq] [b] pos) δ (!decide (c = c')) δ2 :=
  dt_is (dt_neD (n := 1) g ha hb (okD_ns h1) (okD_ns h2)) (by rw [eqv_ns])
end
theorem kit_no_bool {d : D} {t : String} (h : tyD d = some t) (hb : ∀ b, d ≠ .bl b) : kitB t "bool" = some false := by
  cases d <;> cases h <;> first | exact absurd rfl (hb _) | decide +kernel
/-- as many ones as pass -/
theorem ones_of (l : List D) (b : D → Bool) : D.lst ((l.filter b).map fun _ => D.int 1) = nsD ((l.filter b).map fun _ => 1) := by
  show _ = D.lst (((l.filter b).map fun _ => 1).map nD)
  rw [List.map_map]
  rfl
theorem ones_nil (l : List D) (b : D → Bool) : decide ((l.filter b).map (fun _ => 1) = ([] : List Nat)) = l.all fun d => !b d := by
  rw [Bool.eq_iff_iff, decide_eq_true_eq, List.map_eq_nil_iff, List.filter_eq_nil_iff, List.all_eq_true]
  constructor <;> intro h d hd
  · have := h d hd
    simpa using this
  · have := h d hd
    simpa using this
theorem ones_lt {l : List D} {b : D → Bool} : ∀ n ∈ (l.filter b).map (fun _ => (1 : Nat)), n < 1000 := fun n hn => by
  obtain ⟨_, _, rfl⟩ := List.mem_map.mp hn
  decide
theorem ints_of : ∀ {ds : List D}, (ds.all fun d => !(!isI d)) = true → ∃ ns : List Int, ds = ns.map D.int
  | [], _ => ⟨[], rfl⟩
  | d :: ds, h => by
    rw [List.all_cons, Bool.and_eq_true] at h
    obtain ⟨ns, e⟩ := ints_of h.2
    cases d with
    | int i => exact ⟨i :: ns, by rw [e]; rfl⟩
    | _ => cases h.1
theorem inR_int {m : Nat} {ns : List Int} : (ns.map D.int).all (inR m) = ns.all fun i => decide (0 ≤ i) && decide (i ≤ (m : Int) - 1) := by
  rw [List.all_map]
  rfl
section
variable {P : Program} {w : World} {K : PySem.W.Frag} {mg : Str → Option Value} {base : Heap} {f : Addr} {fd : FuncData}
abbrev nIS : List Str := ["depths", "edges", "cycle", "least", "index"]
abbrev cIsStuckG : List D → D → Prop := fun ds d => ∃ (dd : List Nat) (es : List Ed) (v : D), ds = [nsD dd, esD es, v] ∧ Net dd es ∧ OkV v ∧ d = .bl (goodV dd es v)
theorem is_stuckG (F : Df K mg "is_stuck" sIsStuck f fd) (T : Txt mg) (G1 : Gn P w K mg base "require_network" 4 (spP K cReqNet)) (G2 : Gn P w K mg base "is_cycle" 2 (spP K cIsCycG)) : FnG P w K mg base CX0 5 f (spP K cIsStuckG) := by
  refine fn_pure F.fn h_sc9 (F.fn.binds fun _ _ _ _ _ _ us hl => match us, hl with | [_, _, _], _ => rfl) (by rintro ds d ⟨_, _, _, rfl, _⟩; rfl) (by decide) fun cdv A outer s H E ds d g ⟨dd, es, v, e, hn, hv, e'⟩ => ?_
  subst e e'
  have nd := h_sc9.nd
  refine dss_cons (ds_expr (de_callN G1 g (da_cons (de_v 0) (da_one (de_v 1))) ⟨dd, es, rfl, hn, rfl⟩) ?_)
  refine dss_cons (ds_if (m := !cycV es v) (dt_not (dt_val (de_callN G2 (k' := 2) ⟨g.rm.mono (by decide), g.gd⟩ (da_cons (de_v 1) (da_one (de_v 2))) ⟨es, v, rfl, hn.esOk, hv, rfl⟩))) (fun hm => dss_cons (ds_ret (d := .bl false) de_bl ?_)) (fun hm => dss_nil ?_))
  · show D.bl false = D.bl (cycV es v && stuckB dd es (natsD v))
    cases z : cycV es v with
    | false => rfl
    | true => rw [z] at hm; cases hm
  have hcy : cycV es v = true := by
    cases z : cycV es v with
    | true => rfl
    | false => rw [z] at hm; cases hm
  obtain ⟨ev, hc⟩ := cycV_cyc hcy
  have eg : goodV dd es v = stuckB dd es (natsD v) := by
    unfold goodV
    rw [hcy, Bool.true_and]
  rw [eg]
  have hl : ((natsD v).map nD).length ≤ 60 := (hv.l _ ev).1
  generalize natsD v = c at ev hc hl
  subst ev
  obtain ⟨t, t1, t2⟩ := least_at (dd := dd) (es := es) hc.ne
  rw [stuckB_at t1 t2]
  obtain ⟨n, ns, en⟩ : ∃ n ns, dbs dd es c = n :: ns := by
    have hne := hc.ne
    cases c with
    | nil => exact absurd rfl hne
    | cons i c => exact ⟨_, _, rfl⟩
  have emin : minI (n : Int) (ns.map fun m : Nat => (m : Int)) = (t : Int) := by
    obtain ⟨h1, h2⟩ := foldl_min (ns.map fun m : Nat => (m : Int)) (n : Int)
    have e2 : (n : Int) :: ns.map (fun m : Nat => (m : Int)) = (dbs dd es c).map fun m : Nat => (m : Int) := by rw [en]; rfl
    rw [e2] at h1 h2
    obtain ⟨m, hm, hm2⟩ := List.mem_map.mp h2
    obtain ⟨i, hi, rfl⟩ := List.mem_map.mp hm
    have a1 := t2 i hi
    obtain ⟨j, hj, hj2⟩ := t1
    have a2 := h1 (t : Int) (List.mem_map.mpr ⟨t, List.mem_map.mpr ⟨j, hj, hj2⟩, rfl⟩)
    omega
  refine dss_cons (ds_set 3 (d := nD t) (δ1 := [.dat (nsD dd), .dat (esD es), .dat (nsD c), .no, .no]) (de_is (de_minLI (n := n) (ns := ns.map fun m : Nat => (m : Int)) g T.min (de_is (DO.de (do_lcMap (own := [("index", 4)]) (dbD dd es) (blkOk_by (N := nIS) (sc := defScope sIsStuck) (own := [("index", 4)]) (by kernel_rfl)) (di_list (de_v 2)) rfl ?_ ?_)) ?_)) (congrArg D.int emin)) ?_)
  · intro d hd
    obtain ⟨i, hi, rfl⟩ := List.mem_map.mp hd
    exact ⟨[4], _, _, by simp, fun _ _ _ _ _ => dg_name 4, fun _ _ _ _ _ => de_ixL (de_v 0) (de_ixT (ds := [nD (ed es i).b, nD (ed es i).e, .str (ed es i).w]) (d := nD (ed es i).b) (de_ixL (de_v 1) (de_v 4) (L2.atI_nat (ed_get (hc.r i hi)))) de_int rfl) (L2.atI_nat (dp_get (hn.ok.edB (hc.r i hi)))), rfl⟩
  · omega
  · rw [dbs_map, en, List.map_cons, List.map_cons, List.map_map]
    rfl
  refine dss_cons (ds_ret (d := .bl (c.all fun i => !stB dd es t i)) (de_is (de_not (de_any (bs := c.map (stB dd es t)) T.any (de_is (DO.de (do_lcMap (own := [("index", 4)]) (stD dd es t) (blkOk_by (N := nIS) (sc := defScope sIsStuck) (own := [("index", 4)]) (by kernel_rfl)) (di_list (de_v 2)) rfl ?_ ?_)) ?_))) ?_) rfl)
  · intro d hd
    obtain ⟨i, hi, rfl⟩ := List.mem_map.mp hd
    exact ⟨[4], _, _, by simp, fun _ _ _ _ _ => dg_name 4, fun _ _ _ _ _ => de_is (de_and (m := decide ((ed es i).w = rnd)) (n := decide (dp dd (ed es i).b = t)) (de_eqs (de_ixT (ds := [nD (ed es i).b, nD (ed es i).e, .str (ed es i).w]) (d := .str (ed es i).w) (de_ixL (de_v 1) (de_v 4) (L2.atI_nat (ed_get (hc.r i hi)))) de_int rfl) de_str)
      fun _ => de_one (de_is (de_eqi (de_ixL (de_v 0) (de_ixT (ds := [nD (ed es i).b, nD (ed es i).e, .str (ed es i).w]) (d := nD (ed es i).b) (de_ixL (de_v 1) (de_v 4) (L2.atI_nat (ed_get (hc.r i hi)))) de_int rfl) (L2.atI_nat (dp_get (hn.ok.edB (hc.r i hi))))) (de_v 3)) (congrArg D.bl (by rw [decide_eq_decide]; omega)))) rfl, rfl⟩
  · omega
  · rw [List.map_map, List.map_map]
    rfl
  · congr 1
    rw [List.any_map, ← List.not_any_eq_all_not]
    rfl
/-! the law's judges -/
abbrev nLS : List Str := ["_law_depths", "_law_edges", "_law_way", "_law_least", "_law_index"]
theorem h_sc14 : FnScope nLS ["_law_depths", "_law_edges", "_law_way"] (defScope sLStuck) := ⟨rfl, rfl, rfl, by decide +kernel, rfl, by decide +kernel, by decide +kernel⟩
abbrev cLStuckG : List D → D → Prop := fun ds d => ∃ (dd : List Nat) (es : List Ed) (c : List Nat), ds = [nsD dd, esD es, nsD c] ∧ Net dd es ∧ c ≠ [] ∧ (∀ i ∈ c, i < es.length) ∧ c.length ≤ 60 ∧ d = .bl (stuckB dd es c)
theorem law_is_stuckG (F : Df K mg "_law_is_stuck" sLStuck f fd) (T : Txt mg) : FnG P w K mg base CX0 5 f (spP K cLStuckG) := by
  refine fn_pure F.fn h_sc14 (F.fn.binds fun _ _ _ _ _ _ us hl => match us, hl with | [_, _, _], _ => rfl) (by rintro ds d ⟨_, _, _, rfl, _⟩; rfl) (by decide) fun cdv A outer s H E ds d g ⟨dd, es, c, e, hn, hne, hr, hl, e'⟩ => ?_
  subst e e'
  have nd := h_sc14.nd
  obtain ⟨t, t1, t2⟩ := least_at (dd := dd) (es := es) hne
  rw [stuckB_at t1 t2]
  obtain ⟨n, ns, en⟩ : ∃ n ns, dbs dd es c = n :: ns := by
    cases c with
    | nil => exact absurd rfl hne
    | cons i c => exact ⟨_, _, rfl⟩
  have emin : minI (n : Int) (ns.map fun m : Nat => (m : Int)) = (t : Int) := by
    obtain ⟨h1, h2⟩ := foldl_min (ns.map fun m : Nat => (m : Int)) (n : Int)
    have e2 : (n : Int) :: ns.map (fun m : Nat => (m : Int)) = (dbs dd es c).map fun m : Nat => (m : Int) := by rw [en]; rfl
    rw [e2] at h1 h2
    obtain ⟨m, hm, hm2⟩ := List.mem_map.mp h2
    obtain ⟨i, hi, rfl⟩ := List.mem_map.mp hm
    have a1 := t2 i hi
    obtain ⟨j, hj, hj2⟩ := t1
    have a2 := h1 (t : Int) (List.mem_map.mpr ⟨t, List.mem_map.mpr ⟨j, hj, hj2⟩, rfl⟩)
    omega
  have hl' : (c.map nD).length ≤ 60 := by rw [List.length_map]; exact hl
  refine dss_cons (ds_set 3 (d := nD t) (δ1 := [.dat (nsD dd), .dat (esD es), .dat (nsD c), .no, .no]) (de_is (de_minLI (n := n) (ns := ns.map fun m : Nat => (m : Int)) g T.min (de_is (DO.de (do_lcMap (own := [("_law_index", 4)]) (dbD dd es) (blkOk_by (N := nLS) (sc := defScope sLStuck) (own := [("_law_index", 4)]) (by kernel_rfl)) (di_list (de_v 2)) rfl ?_ ?_)) ?_)) (congrArg D.int emin)) ?_)
  · intro d hd
    obtain ⟨i, hi, rfl⟩ := List.mem_map.mp hd
    exact ⟨[4], _, _, by simp, fun _ _ _ _ _ => dg_name 4, fun _ _ _ _ _ => de_ixL (de_v 0) (de_ixT (ds := [nD (ed es i).b, nD (ed es i).e, .str (ed es i).w]) (d := nD (ed es i).b) (de_ixL (de_v 1) (de_v 4) (L2.atI_nat (ed_get (hr i hi)))) de_int rfl) (L2.atI_nat (dp_get (hn.ok.edB (hr i hi)))), rfl⟩
  · omega
  · rw [dbs_map, en, List.map_cons, List.map_cons, List.map_map]
    rfl
  refine dss_cons (ds_ret (d := .bl (c.all fun i => !stB dd es t i)) (de_is (de_eqNs (c := ((c.map nD).filter (stT dd es t)).map fun _ => 1) (c' := []) g (de_is (DO.de (do_lcIf (own := [("_law_index", 4)]) (stT dd es t) (fun _ => .int 1) (blkOk_by (N := nLS) (sc := defScope sLStuck) (own := [("_law_index", 4)]) (by kernel_rfl)) (di_list (de_v 2)) rfl ?_ ?_)) (ones_of _ _)) (DO.de (do_lst da_nil (by exact Nat.zero_le _))) ones_lt (fun n hn => by cases hn)) ?_) rfl)
  · intro d hd
    obtain ⟨i, hi, rfl⟩ := List.mem_map.mp hd
    refine ⟨[4], _, _, by simp, fun _ _ _ _ _ => dg_name 4, fun _ _ _ _ _ => dts_one (dt_is (dt_and (m := decide ((ed es i).w = rnd)) (n := decide (dp dd (ed es i).b = t)) (dt_eqs (de_ixT (ds := [nD (ed es i).b, nD (ed es i).e, .str (ed es i).w]) (d := .str (ed es i).w) (de_ixL (de_v 1) (de_v 4) (L2.atI_nat (ed_get (hr i hi)))) de_int rfl) de_str)
      fun _ => dt_is (dt_eqi (de_ixL (de_v 0) (de_ixT (ds := [nD (ed es i).b, nD (ed es i).e, .str (ed es i).w]) (d := nD (ed es i).b) (de_ixL (de_v 1) (de_v 4) (L2.atI_nat (ed_get (hr i hi)))) de_int rfl) (L2.atI_nat (dp_get (hn.ok.edB (hr i hi))))) (de_v 3)) (by rw [decide_eq_decide]; omega)) rfl), rfl, fun _ => ⟨_, fun _ _ _ _ _ => de_int, rfl⟩⟩
  · omega
  · rw [ones_nil, List.all_map]
    rfl
abbrev nLC : List Str := ["_law_edges", "_law_way", "_law_starts", "_law_ends", "_law_index"]
theorem h_sc15 : FnScope nLC ["_law_edges", "_law_way"] (defScope sLCyc) := ⟨rfl, rfl, rfl, by decide +kernel, rfl, by decide +kernel, by decide +kernel⟩
theorem law_is_cycleG (F : Df K mg "_law_is_cycle" sLCyc f fd) (T : Txt mg) : FnG P w K mg base CX0 2 f (spP K cIsCycG) := by
  refine fn_pure F.fn h_sc15 (F.fn.binds fun _ _ _ _ _ _ us hl => match us, hl with | [_, _], _ => rfl) (by rintro ds d ⟨_, _, rfl, _⟩; rfl) (by decide) fun cdv A outer s H E ds d g ⟨es, val, e, he, hv, e'⟩ => ?_
  subst e e'
  have nd := h_sc15.nd
  by_cases hlst : ∃ ds, val = .lst ds
  · obtain ⟨ds, rfl⟩ := hlst
    obtain ⟨hl, hok, hty⟩ := hv.l ds rfl
    cases ds with
    | nil =>
      exact dss_cons (ds_if (m := true) (dt_is (dt_or (dt_not (dt_val (de_isi T.isinstance T.list "list" PyProof.Rows.boot_list (de_v 1) rfl kit_lst_lst))) fun _ => dt_eqNs (c := []) (c' := []) g (de_v 1) (DO.de (do_lst da_nil (by exact Nat.zero_le _))) (fun n hn => by cases hn) (fun n hn => by cases hn)) rfl) (fun _ => dss_cons (ds_ret de_bl rfl)) (fun h => by cases h))
    | cons d0 ds0 =>
      refine dss_cons (ds_if (m := false) (dt_is (dt_or (dt_not (dt_val (de_isi T.isinstance T.list "list" PyProof.Rows.boot_list (de_v 1) rfl kit_lst_lst))) fun _ => dt_eqD (n := 3) g (de_v 1) (DO.de (do_lst da_nil (by exact Nat.zero_le _))) hok rfl) (by rw [eqv_nil1]; rfl)) (fun h => by cases h) (fun _ => dss_nil ?_))
      generalize hdd : d0 :: ds0 = dl at *
      have hne : dl ≠ [] := fun z => by rw [z] at hdd; cases hdd
      refine dss_cons (ds_if (m := !(dl.all fun d => !(!isI d))) (dt_is (dt_neNs (c := (dl.filter fun d => !isI d).map fun _ => 1) (c' := []) g (de_is (DO.de (do_lcIf (own := [("_law_index", 4)]) (fun d => !isI d) (fun _ => .int 1) (blkOk_by (N := nLC) (sc := defScope sLCyc) (own := [("_law_index", 4)]) (by kernel_rfl)) (di_list (de_v 1)) rfl ?_ ?_)) (ones_of _ _)) (DO.de (do_lst da_nil (by exact Nat.zero_le _))) ones_lt (fun n hn => by cases hn)) (by rw [ones_nil])) (fun hm => dss_cons (ds_ret (d := .bl false) de_bl ?_)) (fun hm => dss_nil ?_))
      · intro d hd
        obtain ⟨t, ht⟩ := hty d hd
        by_cases hb : ∃ b, d = .bl b
        · obtain ⟨b, rfl⟩ := hb
          exact ⟨[4], _, _, by simp, fun _ _ _ _ _ => dg_name 4, fun _ _ _ _ _ => dts_one (dt_is (dt_or (m := true) (n := false) (dt_val (de_isi T.isinstance T.bool "bool" PyProof.Rows.boot_bool (de_v 4) rfl kit_bool_bool)) fun h => by cases h) rfl), rfl, fun _ => ⟨_, fun _ _ _ _ _ => de_int, rfl⟩⟩
        · have hk := kit_all_int ht fun b z => hb ⟨b, z⟩
          have hk2 := kit_no_bool ht fun b z => hb ⟨b, z⟩
          exact ⟨[4], _, _, by simp, fun _ _ _ _ _ => dg_name 4, fun _ _ _ _ _ => dts_one (dt_is (dt_or (m := false) (n := !isI d) (dt_val (de_isi T.isinstance T.bool "bool" PyProof.Rows.boot_bool (de_v 4) ht hk2)) fun _ => dt_not (dt_val (de_isi T.isinstance T.int "int" PyProof.Rows.boot_int (de_v 4) ht hk))) rfl), rfl, fun _ => ⟨_, fun _ _ _ _ _ => de_int, rfl⟩⟩
      · omega
      · show D.bl false = D.bl (!dl.isEmpty && dl.all (inR es.length) && cycB es (natsOf dl))
        have hz : dl.all (inR es.length) = false := by
          cases z : dl.all (inR es.length) with
          | false => rfl
          | true =>
            obtain ⟨ec, _⟩ := inR_all z
            have y : (dl.all fun d => !(!isI d)) = true := by
              rw [ec, List.all_map, List.all_eq_true]
              intro i _
              rfl
            rw [y] at hm
            cases hm
        rw [hz, Bool.and_false, Bool.false_and]
      have hall : (dl.all fun d => !(!isI d)) = true := by
        cases z : (dl.all fun d => !(!isI d)) with
        | true => rfl
        | false => rw [z] at hm; cases hm
      obtain ⟨ns, ens'⟩ := ints_of hall
      cases ns with
      | nil => exact absurd ens' hne
      | cons n ns =>
        obtain ⟨f1, f2⟩ := foldl_min ns n
        obtain ⟨f3, f4⟩ := foldl_max ns n
        refine dss_cons (ds_if (m := decide (minI n ns < 0) || decide ((es.length : Int) ≤ maxI n ns)) (dt_is (dt_or (dt_lt (de_minLI g T.min (de_is (de_v 1) (congrArg D.lst ens'))) de_int) fun _ => dt_ge (de_maxLI g T.max (de_is (de_v 1) (congrArg D.lst ens'))) (de_lenL T.len (de_v 0))) (by rw [List.length_map])) (fun hm => dss_cons (ds_ret (d := .bl false) de_bl ?_)) (fun hm => dss_nil ?_))
        · show D.bl false = D.bl (!dl.isEmpty && dl.all (inR es.length) && cycB es (natsOf dl))
          have hz : dl.all (inR es.length) = false := by
            rw [ens', inR_int]
            cases z : ((n :: ns).all fun i => decide (0 ≤ i) && decide (i ≤ (es.length : Int) - 1)) with
            | false => rfl
            | true =>
              exfalso
              rw [List.all_eq_true] at z
              rw [Bool.or_eq_true, decide_eq_true_eq, decide_eq_true_eq] at hm
              have y1 := z _ f2
              have y2 := z _ f4
              rw [Bool.and_eq_true, decide_eq_true_eq, decide_eq_true_eq] at y1 y2
              omega
          rw [hz, Bool.and_false, Bool.false_and]
        have hall2 : dl.all (inR es.length) = true := by
          rw [ens', inR_int, List.all_eq_true]
          intro i hi
          rw [Bool.or_eq_false_iff, decide_eq_false_iff_not, decide_eq_false_iff_not] at hm
          have y1 := f1 i hi
          have y2 := f3 i hi
          rw [Bool.and_eq_true, decide_eq_true_eq, decide_eq_true_eq]
          omega
        obtain ⟨ec, hr⟩ := inR_all hall2
        have hcn : natsOf dl ≠ [] := fun z => by
          rw [z] at ec
          exact hne ec
        have hcl : (natsOf dl).length = dl.length := List.length_map ..
        clear hm hall hok hty hdd hall2 ens'
        generalize natsOf dl = c at ec hr hcn hcl
        subst ec
        have ev : cycV es (nsD c) = cycB es c := cycV_ns hcn hr
        rw [show D.lst (c.map nD) = nsD c from rfl, ev]
        refine dss_cons (ds_lcMap (i := 2) (own := [("_law_index", 4)]) (bgD es) rfl (blkOk_by (N := nLC) (sc := defScope sLCyc) (own := [("_law_index", 4)]) (by kernel_rfl)) (di_list (de_v 1)) rfl (fun d hd => by
          obtain ⟨i, hi, rfl⟩ := List.mem_map.mp hd
          exact ⟨[4], _, _, by simp, fun _ _ _ _ _ => dg_name 4, fun _ _ _ _ _ => de_ixT (ds := [nD (ed es i).b, nD (ed es i).e, .str (ed es i).w]) (de_ixL (de_v 0) (de_v 4) (L2.atI_nat (ed_get (hr i hi)))) de_int rfl, rfl⟩) (by omega) fun p2 => ?_)
        rw [bgs_map]
        refine dss_frz 2 rfl ?_
        refine dss_cons (ds_lcMap (i := 3) (own := [("_law_index", 4)]) (enD es) rfl (blkOk_by (N := nLC) (sc := defScope sLCyc) (own := [("_law_index", 4)]) (by kernel_rfl)) (di_list (de_v 1)) rfl (fun d hd => by
          obtain ⟨i, hi, rfl⟩ := List.mem_map.mp hd
          exact ⟨[4], _, _, by simp, fun _ _ _ _ _ => dg_name 4, fun _ _ _ _ _ => de_ixT (ds := [nD (ed es i).b, nD (ed es i).e, .str (ed es i).w]) (de_ixL (de_v 0) (de_v 4) (L2.atI_nat (ed_get (hr i hi)))) de_int rfl, rfl⟩) (by omega) fun p3 => ?_)
        rw [ens_map]
        refine dss_frz 3 rfl ?_
        have hel : (ens es c).length = c.length := List.length_map ..
        have hbl : (bgs es c).length = c.length := List.length_map ..
        have hb1 : ∀ n ∈ bgs es c, n < 1000 := fun n hn => by
          obtain ⟨i, hi, rfl⟩ := List.mem_map.mp hn
          exact (he.at_ (hr i hi)).1
        have he1 : ∀ n ∈ ens es c, n < 1000 := fun n hn => by
          obtain ⟨i, hi, rfl⟩ := List.mem_map.mp hn
          exact (he.at_ (hr i hi)).2
        refine dss_cons (ds_ret (d := .bl (cycB es c)) (de_and (m := decide (bgs es c = (ens es c).drop (c.length - 1) ++ (ens es c).take (c.length - 1))) (n := decide ((bgs es c).Nodup)) (de_eqNs (c := bgs es c) (c' := (ens es c).drop (c.length - 1) ++ (ens es c).take (c.length - 1)) g (de_v 2) (de_is (DO.de (do_cat (DO.de (do_slL (l := some (-1)) (h := none) (de_v 3) (dp_some (de_neg de_int)) dp_none)) (DO.de (do_slL (l := none) (h := some (-1)) (de_v 3) dp_none (dp_some (de_neg de_int)))) ?_)) ?_) hb1 ?_)
          fun _ => de_one (de_is (de_eqi (de_is (de_lenSet (ns := (bgs es c).map fun n : Nat => (n : Int)) T.len T.set (de_is (de_v 2) (nsD_ints _)) ?_) rfl) (de_lenL T.len (de_v 2))) ?_)) rfl)
        · rw [cut_last1, cut_init1]
          simp only [List.length_append, List.length_map, List.length_drop, List.length_take, List.length_nil]
          omega
        · rw [cut_last1, cut_init1, List.length_map, hel]
          show _ = D.lst (((ens es c).drop (c.length - 1) ++ (ens es c).take (c.length - 1)).map nD)
          rw [List.map_append, List.map_drop, List.map_take]
        · intro n hn
          rcases List.mem_append.mp hn with z | z
          · exact he1 n (List.mem_of_mem_drop z)
          · exact he1 n (List.mem_of_mem_take z)
        · rw [List.length_map, hbl]
          omega
        · have z := usort_dec ((bgs es c).map fun n : Nat => (n : Int))
          rw [decide_eq_decide.mpr (nodup_cast (bgs es c))] at z
          rw [← z]
          congr 1
          rw [decide_eq_decide]
          simp only [List.length_map]
          omega
  · have hno : ∀ ds, val ≠ .lst ds := fun ds z => hlst ⟨ds, z⟩
    obtain ⟨t, ht⟩ := hv.t
    rw [cycV_other hno]
    exact dss_cons (ds_if (m := true) (dt_is (dt_or (m := true) (n := false) (dt_is (dt_not (dt_val (de_isi T.isinstance T.list "list" PyProof.Rows.boot_list (de_v 1) ht (kit_no_list ht hno hv.r)))) rfl) fun h => by cases h) rfl) (fun _ => dss_cons (ds_ret de_bl rfl)) (fun h => by cases h))
end
end Gr

/-! part Ly71 -/
set_option pp.maxSteps 400
/-! a, b = [..], [..] -/
namespace Dy
open PySem PySem.Spec PyProof.Rows L2
theorem ds_parLL {X : Cx} {δ δ1 δ2 : List Sl} {pos : Pos} {i j : Nat} {x y : Str} {a b : Expr} {px py pt : Pos} {kt k2 : Nat} {pt2 : Pos} {Φ : DD} {ds es : List D} (ha : DO X a δ ds δ1) (hb : DO X b δ1 es δ2) (q : ∀ r p, Φ.nx ((δ2.set i (.own r ds)).set j (.own p es))) (hi : X.N[i]? = some x) (hj : X.N[j]? = some y) (hij : i ≠ j := by decide)
    (hc : X.calm = true := by rfl) (hN : X.N.Nodup := by first | assumption | decide) (hx : X.env.scope.names.lookup x = some .local := by rfl) (hy : X.env.scope.names.lookup y = some .local := by rfl)
    (hw : swappedStores [.Tuple [.Name x px, .Name y py] kt pt] (.Tuple [a, b] k2 pt2) X.env = pure (some [x, y]) := by rfl) (hs : swapsWithSole [.Tuple [.Name x px, .Name y py] kt pt] (.Tuple [a, b] k2 pt2) pos.line X.env = pure false := by rfl)
    (s1 : starEach [a, b] X.env = (false, eval a X.env) :: starEach [b] X.env := by exact st_any rfl) (s2 : starEach [b] X.env = (false, eval b X.env) :: starEach [] X.env := by exact st_any rfl) :
    DS X (.Assign [.Tuple [.Name x px, .Name y py] kt pt] (.Tuple [a, b] k2 pt2) pos) δ Φ := fun F R H σ E s k =>
  (ps_par hc hN hi hj hij hx hy (pa_cons peW (pa_cons peW pa_nil s2) s1) hw hs).w (ha F R H σ _ s fun r xs R1 H1 t1 st hF hR hr ia no => by
    have no2 : ∀ (i : Nat) (hf : NestedKey → Int) (ks vs : List D), δ1[i]? ≠ some (.odc hf r ks vs) := fun m hf ks vs z => by
      obtain ⟨_, _, _, M, z4, _⟩ := st.at_ m _ z
      rw [hr] at z4
      cases z4
    have mF : Same F (upd F r (.lst xs)) := fun b o z => by rw [upd_ne (ne_of_none z hF)]; exact z
    refine hb (upd F r (.lst xs)) R1 H1 σ _ (st.hold hr no no2) fun p ys R2 H2 t2 st2 hF2 hR2 hp ib nop => ?_
    have hr2 : H2 r = some (.lst xs) := st2.fr r _ upd_same
    have ne : r ≠ p := fun e => by rw [← e, upd_same] at hF2; cases hF2
    have hRr : R2 r = none := t2.nw r (by rw [upd_same]; exact fun z => by cases z) hR
    have hFp : F p = none := mF.free hF2
    have no' : ∀ (i : Nat) (es : List D), δ2[i]? ≠ some (.own r es) := fun m es z => by
      obtain ⟨_, z2, _⟩ := st2.at_ m _ z
      rw [upd_same] at z2
      cases z2
    have st3 : StOk X.K F R2 H2 σ δ2 := st2.low mF
    refine ⟨_, _, rfl, k.nx R2 _ _ _ (t1.trans (t2.low mF)) ((st3.setO (i := i) hF hRr hr2 (ia.mono t2.ex) no').setO (i := j) hFp hR2 hp ib fun m es z => ?_) (q r p)⟩
    by_cases hm : m = i
    · rw [hm] at z
      rcases Nat.lt_or_ge i δ2.length with hlt | hge
      · rw [List.getElem?_set_self hlt] at z
        cases z
        exact ne rfl
      · rw [List.getElem?_eq_none (by rw [List.length_set]; exact hge)] at z; cases z
    · rw [List.getElem?_set_ne (Ne.symm hm)] at z
      exact nop m es z)
end Dy

/-! part Ly72 -/
set_option pp.maxSteps 400
/-! xs.index(x), xs a list of ints -/
namespace Dy
open PySem PySem.Spec PyProof.Rows L2
theorem de_index {X : Cx} {a e : Expr} {ap tp : Pos} {δ δ1 δ2 : List Sl} {ns : List Int} {n : Int} (ha : DE X a δ (.lst (ns.map D.int)) δ1) (he : DE X e δ1 (.int n) δ2) (hm : n ∈ ns)
    (p0 : ∀ {ta : TE} {t : TA}, PE X a ta → PA X [e] t → PE X (.Call (.Attribute a "index" ap) [e] [] tp) (tBM X.K "list" (rIndex X.K) ta t) := by exact fun h1 h2 => pe_bm PySem.F.plainAttrs_list PySem.F.slot_list_index PySem.F.type_list_index mt_index h1 h2)
    (hst : starEach [e] X.env = (false, eval e X.env) :: starEach [] X.env := by exact st_any rfl) : DE X (.Call (.Attribute a "index" ap) [e] [] tp) δ (.int (ns.idxOf n : Nat)) δ2 := fun F R H σ Q s k => by
  refine (p0 peW paW).w (ha F R H σ _ s fun x R1 H1 t1 s1 ix => ?_)
  cases ix with
  | @lst b xs _ q ia =>
    have ex : xs = ns.map V.int := ia.ints
    refine ⟨.inl ⟨rfl, xs, SqL.of (s1.rg _ _ q)⟩, (da_one he hst) F R1 H1 σ _ s1 fun vs R2 H2 t2 s2 iv => ?_⟩
    cases iv with
    | cons i1 i2 =>
      cases i2
      cases i1
      have hl : ns.idxOf n < ns.length := List.idxOf_lt_length_iff.mpr hm
      refine ⟨b, xs, .int n, ns.idxOf n, .int n, rfl, rfl, SqL.of (s2.rg _ _ (t2.ex _ _ q)), rfl, ?_, ?_, ?_, fun m z' hlt hz => ?_, k _ R2 H2 (t1.trans t2) s2 (.int _)⟩
      · rw [ex, List.all_map]
        simp [flatV]
      · rw [ex, List.getElem?_map, List.getElem?_eq_getElem hl, List.getElem_idxOf hl]
        rfl
      · show (n == n) = true
        exact beq_self_eq_true n
      · rw [ex, List.getElem?_map] at hz
        obtain ⟨w, hw, rfl⟩ := Option.map_eq_some_iff.mp hz
        show (w == n) = false
        have hml : m < ns.length := (List.getElem?_eq_some_iff.mp hw).1
        have z := List.not_of_lt_findIdx (p := fun x => x == n) (xs := ns) (i := m) hlt
        rw [List.getElem?_eq_getElem hml] at hw
        rw [← Option.some.inj hw]
        simpa using z
end Dy

/-! part Ly73 -/
set_option pp.maxSteps 400
/-! sorted([m, n]) of two ints -/
namespace Dy
open PySem PySem.Spec PyProof.Rows L2
theorem two_sorted {m n : Int} {ns : List Int} (h : ns.Perm [m, n]) (hs : ns.Pairwise (· ≤ ·)) : ns = [min m n, max m n] := by
  have hl := h.length_eq
  match ns, hl with
  | [a, b], _ =>
    have hab : a ≤ b := by
      have z := List.pairwise_cons.mp hs
      exact z.1 b (List.mem_singleton.mpr rfl)
    have ha : a = m ∨ a = n := by simpa using h.mem_iff.mp (List.mem_cons_self ..)
    have hm : m = a ∨ m = b := by simpa using h.symm.mem_iff.mp (List.mem_cons_self ..)
    have hn : n = a ∨ n = b := by simpa using h.symm.mem_iff.mp (List.mem_cons_of_mem _ (List.mem_cons_self ..))
    have hb : b = m ∨ b = n := by simpa using h.mem_iff.mp (List.mem_cons_of_mem _ (List.mem_cons_self ..))
    have e1 : a = min m n := by omega
    have e2 : b = max m n := by omega
    rw [e1, e2]
theorem do_sort2 {X : Cx} {a : Expr} {p pos : Pos} {δ δ1 : List Sl} {m n : Int} (hm : X.mg "sorted" = none) (h : DE X a δ (.lst ([m, n].map D.int)) δ1) (hg : Gl X "sorted" := by rfl) (na : starEach [a] X.env = (false, eval a X.env) :: starEach [] X.env := by exact st_any rfl) (hpl : (backTo pos (starEach [] X.env)).any (·.1) = false := by rfl) :
    DO X (.Call (.Name "sorted" p) [a] [] pos) δ [.int (min m n), .int (max m n)] δ1 := fun F R H σ Q s k =>
  (pe_callB cr_sorted hg hm PyProof.Rows.boot_sorted paW (by decide) (by decide) na hpl).w ((da_one h na) F R H σ _ s fun vs R1 H1 t1 s1 ia => by
    cases ia with
    | cons i1 i2 =>
      cases i2
      cases i1 with
      | @lst l xs _ qa ib =>
        refine ⟨l, [m, n], rfl, SqL.of (by rw [← IsA.ints (ns := [m, n]) ib]; exact s1.rg _ _ qa), (by decide : 2 < 64), ?_⟩
        intro ns' q hp hs hn
        rw [two_sorted hp hs]
        refine k q _ R1 _ t1 (s1.off hn) (s1.fr.free hn) (s1.rg.free hn) upd_same (isA_ints [min m n, max m n]) fun i es z => ?_
        obtain ⟨_, _, _, ys, hy, _⟩ := s1.at_ i _ z
        rw [hn] at hy
        cases hy)
end Dy

/-! part Ly74 -/
set_option pp.maxSteps 400
/-! int(bool); e is not True; a, b = x, [] -/
namespace Dy
open PySem PySem.Spec PyProof.Rows L2
section
variable {X : Cx} {a : Expr} {p pos p0 : Pos} {δ δ1 : List Sl} {b : Bool} {d : D} {j : Nat}
theorem de_intB (hm : X.mg "int" = none) (h : DE X a δ (.bl b) δ1) (hg : Gl X "int" := by rfl) (he : starEach [a] X.env = (false, eval a X.env) :: starEach [] X.env := by exact st_any rfl) (hpl : (backTo pos (starEach [] X.env)).any (·.1) = false := by rfl) : DE X (.Call (.Name "int" p) [a] [] pos) δ (.int (if b then 1 else 0)) δ1 := fun F R H σ Q s k =>
  (pe_callTy call_int1 hg hm PyProof.Rows.boot_int paW (by decide) (by decide) he hpl).w ((da_one h he) F R H σ _ s fun vs R1 H1 t1 s1 ia => by
    cases ia with
    | cons i1 i2 =>
      cases i2
      cases i1
      exact .inr ⟨b, rfl, k _ R1 H1 t1 s1 (.int _)⟩)
theorem dt_notTrue (ha : DE X a δ (.bl b) δ1) : DT X (.Compare a [.IsNot] [.Constant (.bool true) j p0] pos) δ (!b) δ1 := fun F R H σ Q s k =>
  (pt_cmpR op_isnot_bl peW pe_bl (nomark _)).w (ha F R H σ _ s fun x R1 H1 t1 s1 ix => by
    cases ix
    exact ⟨b, true, rfl, rfl, _, rfl, by
      have e : (!decide (b = true)) = !b := by cases b <;> rfl
      rw [e]
      exact k R1 H1 t1 s1⟩)
end
theorem ds_parDO {X : Cx} {δ δ1 : List Sl} {pos : Pos} {i j : Nat} {x y : Str} {a : Expr} {lp px py pt : Pos} {kt k2 : Nat} {pt2 : Pos} {d1 : D} {Φ : DD} (ha : DE X a δ d1 δ1) (q : ∀ p, Φ.nx ((δ1.set i (.dat d1)).set j (.own p []))) (hi : X.N[i]? = some x) (hj : X.N[j]? = some y) (hij : i ≠ j := by decide)
    (hc : X.calm = true := by rfl) (hN : X.N.Nodup := by first | assumption | decide) (hx : X.env.scope.names.lookup x = some .local := by rfl) (hy : X.env.scope.names.lookup y = some .local := by rfl)
    (hw : swappedStores [.Tuple [.Name x px, .Name y py] kt pt] (.Tuple [a, .List [] lp] k2 pt2) X.env = pure (some [x, y]) := by rfl) (hs : swapsWithSole [.Tuple [.Name x px, .Name y py] kt pt] (.Tuple [a, .List [] lp] k2 pt2) pos.line X.env = pure false := by rfl)
    (s1 : starEach [a, .List [] lp] X.env = (false, eval a X.env) :: starEach [.List [] lp] X.env := by exact st_any rfl) (s2 : starEach [.List [] lp] X.env = (false, eval (.List [] lp) X.env) :: starEach [] X.env := by exact st_any rfl) :
    DS X (.Assign [.Tuple [.Name x px, .Name y py] kt pt] (.Tuple [a, .List [] lp] k2 pt2) pos) δ Φ := fun F R H σ E s k =>
  (ps_par hc hN hi hj hij hx hy (pa_cons peW (pa_cons (pe_lst pa_nil) pa_nil s2) s1) hw hs).w (ha F R H σ _ s fun v R1 H1 t1 st1 iv => by
    refine ⟨by exact Nat.zero_le _, fun p hp => ?_⟩
    have st2 := st1.off (o := HO.lst []) hp
    refine ⟨_, _, rfl, k.nx R1 _ _ _ t1 ((st2.setD (i := i) iv).setO (i := j) (st1.fr.free hp) (st1.rg.free hp) upd_same .nil fun m es z => ?_) (q p)⟩
    by_cases hm : m = i
    · rw [hm] at z
      rcases Nat.lt_or_ge i δ1.length with hlt | hge
      · rw [List.getElem?_set_self hlt] at z
        cases z
      · rw [List.getElem?_eq_none (by rw [List.length_set]; exact hge)] at z; cases z
    · rw [List.getElem?_set_ne (Ne.symm hm)] at z
      obtain ⟨_, _, _, ys, hy, _⟩ := st1.at_ m _ z
      rw [hp] at hy
      cases hy)
end Dy

/-! part Hx4 -/
set_option pp.maxSteps 400
namespace Gr
open PySem PySem.Spec PyProof.Rows L2 Dy Kk
/-! drawn networks -/
abbrev stayS : Str := "stay"
def dps (s : S) : Nat → List Nat × S
  | 0 => ([], s)
  | k + 1 => ((dps s k).1 ++ [1 + (Sp.pick (dps s k).2 3).1.toNat], (Sp.pick (dps s k).2 3).2)
theorem dps_ok {s : S} {n : Nat} (h : Hd n s) : ∀ k, Hd (n + k) (dps s k).2 ∧ (dps s k).1.length = k ∧ ∀ d ∈ (dps s k).1, 1 ≤ d ∧ d ≤ 3
  | 0 => ⟨h, rfl, fun d hd => by cases hd⟩
  | k + 1 => by
    obtain ⟨a, b, c⟩ := dps_ok h k
    obtain ⟨p1, p2, p3⟩ := Sp.pick_hd a (m := 3) (by decide)
    refine ⟨p1, ?_, fun d hd => ?_⟩
    · show ((dps s k).1 ++ [_]).length = _
      rw [List.length_append, b]
      rfl
    · rcases List.mem_append.mp hd with z | z
      · exact c d z
      · rw [List.mem_singleton.mp z]
        omega
def edT (dd : List Nat) (s : S) : Option Ed × S :=
  let o := (Sp.pick s dd.length).1.toNat
  let t := (Sp.pick (Sp.pick s dd.length).2 dd.length).1.toNat
  let s2 := (Sp.pick (Sp.pick s dd.length).2 dd.length).2
  if dp dd o = dp dd t then (some ⟨o, t, if 0 < (Sp.pick s2 3).1 ∧ 1 < dp dd o then rnd else stayS⟩, (Sp.pick s2 3).2)
  else if dp dd o = dp dd t + 1 ∨ dp dd t = dp dd o + 1 then (some ⟨o, t, if dp dd o < dp dd t then "enter" else "leave"⟩, s2)
  else (none, s2)
theorem edT_ok {dd : List Nat} {s : S} {n : Nat} (h : Hd n s) (h1 : 1 ≤ dd.length) (h3 : ∀ d ∈ dd, 1 ≤ d ∧ d ≤ 3) : Hd (n + 3) (edT dd s).2 ∧ ∀ x, (edT dd s).1 = some x → EdOk dd x := by
  have hn' : (0 : Int) < (dd.length : Int) := by omega
  obtain ⟨g1, a1, a2⟩ := Sp.pick_hd h hn'
  obtain ⟨g2, b1, b2⟩ := Sp.pick_hd g1 hn'
  obtain ⟨g3, _, _⟩ := Sp.pick_hd g2 (m := 3) (by decide)
  have ha : (Sp.pick s dd.length).1.toNat < dd.length := by omega
  have hb : (Sp.pick (Sp.pick s dd.length).2 dd.length).1.toNat < dd.length := by omega
  unfold edT
  dsimp only
  generalize (Sp.pick s dd.length).1.toNat = o at ha
  generalize (Sp.pick (Sp.pick s dd.length).2 dd.length).1.toNat = t at hb
  generalize (Sp.pick (Sp.pick s dd.length).2 dd.length).2 = s2 at g2 g3
  by_cases c1 : dp dd o = dp dd t
  · rw [if_pos c1]
    refine ⟨g3, fun x hx => ?_⟩
    cases hx
    refine ⟨ha, hb, ?_⟩
    by_cases c2 : 0 < (Sp.pick s2 3).1 ∧ 1 < dp dd o
    · refine ⟨.round, ?_, ?_⟩
      · show (if _ then _ else _) = _
        rw [if_pos c2]
        rfl
      · show (decide (dp dd o = dp dd t) && decide (2 ≤ dp dd t)) = true
        rw [decide_eq_true c1, decide_eq_true (by omega)]
        rfl
    · refine ⟨.stay, ?_, decide_eq_true c1⟩
      show (if _ then _ else _) = _
      rw [if_neg c2]
      rfl
  · rw [if_neg c1]
    by_cases c2 : dp dd o = dp dd t + 1 ∨ dp dd t = dp dd o + 1
    · rw [if_pos c2]
      refine ⟨Hd.mono g2 (by omega), fun x hx => ?_⟩
      cases hx
      refine ⟨ha, hb, ?_⟩
      by_cases c3 : dp dd o < dp dd t
      · refine ⟨.enter, ?_, decide_eq_true (show dp dd t = dp dd o + 1 by omega)⟩
        show (if _ then _ else _) = _
        rw [if_pos c3]
        rfl
      · refine ⟨.leave, ?_, decide_eq_true (show dp dd t + 1 = dp dd o by omega)⟩
        show (if _ then _ else _) = _
        rw [if_neg c3]
        rfl
    · rw [if_neg c2]
      exact ⟨Hd.mono g2 (by omega), fun x hx => by cases hx⟩
def edN (dd : List Nat) (s : S) : Nat → List Ed × S
  | 0 => ([], s)
  | k + 1 => ((edN dd s k).1 ++ (edT dd (edN dd s k).2).1.toList, (edT dd (edN dd s k).2).2)
theorem edN_ok {dd : List Nat} {s : S} {n : Nat} (h : Hd n s) (h1 : 1 ≤ dd.length) (h3 : ∀ d ∈ dd, 1 ≤ d ∧ d ≤ 3) : ∀ k, Hd (n + 3 * k) (edN dd s k).2 ∧ (∀ x ∈ (edN dd s k).1, EdOk dd x) ∧ (edN dd s k).1.length ≤ k
  | 0 => ⟨h, ⟨fun x hx => by simp [edN] at hx, Nat.le_refl _⟩⟩
  | k + 1 => by
    obtain ⟨a, b, c⟩ := edN_ok h h1 h3 k
    obtain ⟨d, e⟩ := edT_ok a h1 h3
    refine ⟨d, fun x hx => ?_, ?_⟩
    · rcases List.mem_append.mp hx with z | z
      · exact b x z
      · exact e x (Option.mem_toList.mp z)
    · show ((edN dd s k).1 ++ _).length ≤ _
      rw [List.length_append]
      have : ((edT dd (edN dd s k).2).1.toList).length ≤ 1 := by
        cases (edT dd (edN dd s k).2).1 <;> simp
      omega
abbrev nwN (s : S) (most : Nat) : Nat := 1 + (Sp.pick s most).1.toNat
abbrev nwD (s : S) (most : Nat) : List Nat × S := dps (Sp.pick s most).2 (nwN s most)
abbrev nwP (s : S) (most many : Nat) : Int × S := Sp.pick (nwD s most).2 ((many : Int) + 1)
abbrev nwE (s : S) (most many : Nat) : List Ed × S := edN (nwD s most).1 (nwP s most many).2 (nwP s most many).1.toNat
theorem netw_ok {s : S} {n most many : Nat} (h : Hd n s) (m1 : 1 ≤ most) (m2 : most ≤ 24) (m3 : many ≤ 60) : Hd (n + 2 + most + 3 * many) (nwE s most many).2 ∧ Net (nwD s most).1 (nwE s most many).1 ∧ (nwD s most).1.length ≤ most ∧ (nwE s most many).1.length ≤ many := by
  obtain ⟨a1, a2, a3⟩ := Sp.pick_hd h (m := (most : Int)) (by omega)
  obtain ⟨b1, b2, b3⟩ := dps_ok a1 (nwN s most)
  obtain ⟨c1, c2, c3⟩ := Sp.pick_hd b1 (m := (many : Int) + 1) (by omega)
  have hN : (nwD s most).1.length = 1 + (Sp.pick s most).1.toNat := b2
  obtain ⟨d1, d2, d3⟩ := edN_ok (dd := (nwD s most).1) c1 (by omega) b3 (nwP s most many).1.toNat
  have hp : (nwP s most many).1.toNat ≤ many := by
    show (Sp.pick (dps _ _).2 _).1.toNat ≤ _
    omega
  have hE : (nwE s most many).1.length ≤ (nwP s most many).1.toNat := d3
  exact ⟨Hd.mono d1 (by have : nwN s most ≤ most := (by show 1 + _ ≤ _; omega); omega), ⟨by omega, by omega, by omega, b3, d2⟩, by omega, by omega⟩
abbrev nNw : List Str := ["_law_spring_here", "_law_most", "_law_many", "_law_depths", "_law_edges", "_law_turn", "_law_one", "_law_two", "_law_place"]
section
variable {P : Program} {w : World} {K : PySem.W.Frag} {mg : Str → Option Value} {base : Heap} {f : Addr} {fd : FuncData}
theorem h_sc16 : FnScope nNw ["_law_spring_here", "_law_most", "_law_many"] (defScope sLNet) := ⟨rfl, rfl, rfl, by decide +kernel, rfl, by decide +kernel, by decide +kernel⟩
abbrev cNetw : List D → List D → D → List D → Prop := fun hs ds d hs' => ∃ (n : Nat) (s : S) (most many : Nat), hs = s.ds ∧ ds = [nD most, nD many] ∧ Hd n s ∧ n ≤ 40000 ∧ 1 ≤ most ∧ most ≤ 24 ∧ many ≤ 60 ∧ d = .tup [nsD (nwD s most).1, esD (nwE s most many).1] ∧ hs' = (nwE s most many).2.ds
theorem law_network (F : Df K mg "_law_network" sLNet f fd) (T : Txt mg) (hA : mg "abs" = none) (N : Sp.PickN P w K mg base) : FnG P w K mg base CX0 2 f (spH K cNetw) := by
  refine fn_hoard F.fn h_sc16 (F.fn.binds fun _ _ _ _ _ _ us hl => match us, hl with | [_, _, _], _ => rfl) (by rintro hs ds d hs' ⟨_, _, _, _, rfl, rfl, _⟩; rfl) (by decide) fun cdv A outer s0 H E p hs ds d hs' g ⟨n, s, most, many, e1, e2, hd, hn, m1, m2, m3, e3, e4⟩ => ?_
  subst e1 e2 e3 e4
  have nd := h_sc16.nd
  have hlog : ∀ j : Int, 0 < j → j ≤ 100 → j.natAbs.log2 < 9000 := fun j j0 j1 => Nat.lt_of_le_of_lt (Nat.log2_le_self _) (by omega)
  obtain ⟨a1, a2, a3⟩ := Sp.pick_hd hd (m := (most : Int)) (by omega)
  obtain ⟨b1, b2, b3⟩ := dps_ok a1 (nwN s most)
  obtain ⟨c1, c2, c3⟩ := Sp.pick_hd b1 (m := (many : Int) + 1) (by omega)
  refine dss_cons (ds_setLc (i := 3) (own := [("_law_place", 8)]) (ds := (nwD s most).1.map nD) (δ' := [.own p (nwD s most).2.ds, .dat (nD most), .dat (nD many), .no, .no, .no, .no, .no, .no]) rfl (blkOk_by (N := nNw) (sc := defScope sLNet) (own := [("_law_place", 8)]) (by kernel_rfl)) (di_range1 rfl T.range (da_one (de_add de_int (Sp.de_pick 0 N g rfl (de_v 1) rfl hd (by omega) (by omega) (hlog _ (by omega) (by omega))))) (by omega))
    (fun i ac δ => ac = (dps (Sp.pick s most).2 i).1.map nD ∧ δ = [.own p (dps (Sp.pick s most).2 i).2.ds, .dat (nD most), .dat (nD many), .no, .no, .no, .no, .no, .no]) ⟨rfl, rfl⟩ ?_ ?_ ?_ fun q => dss_frz 3 rfl ?_)
  · rintro i d ac δ3 hi ⟨rfl, rfl⟩
    have hlt : i < 1 + (Sp.pick s most).1.toNat := by
      have z := (List.getElem?_eq_some_iff.mp hi).1
      rw [List.length_map, List.length_range] at z
      omega
    obtain ⟨x1, x2, x3⟩ := dps_ok a1 i
    obtain ⟨p1, p2, p3⟩ := Sp.pick_hd x1 (m := 3) (by decide)
    refine ⟨[8], _, true, _, by simp, fun _ _ _ _ _ => dg_name 8, fun _ _ _ _ _ => dts_nil, nD (1 + (Sp.pick (dps (Sp.pick s most).2 i).2 3).1.toNat), _, fun _ _ _ _ _ => de_is (de_add de_int (Sp.de_pick 0 N ⟨g.rm, g.gd⟩ rfl de_int rfl x1 (by omega) (by decide) (by decide +kernel))) (congrArg D.int (by omega)), ?_, rfl⟩
    show _ ++ [_] = ((dps (Sp.pick s most).2 i).1 ++ [_]).map nD
    rw [List.map_append]
    rfl
  · rintro ac δ3 ⟨e1, e2⟩
    have el : ((List.range (1 + (Sp.pick s most).1).toNat).map fun i : Nat => D.int (i : Int)).length = nwN s most := by
      rw [List.length_map, List.length_range]
      show _ = 1 + _
      omega
    rw [el] at e1 e2
    exact ⟨e1, e2⟩
  · rw [List.length_map, List.length_range]
    omega
  obtain ⟨dd, edd⟩ : ∃ dd, (nwD s most).1 = dd := ⟨_, rfl⟩
  obtain ⟨s2, es2⟩ : ∃ s2, (nwD s most).2 = s2 := ⟨_, rfl⟩
  have b2' : dd.length = 1 + (Sp.pick s most).1.toNat := by rw [← edd]; exact b2
  have b1' : Hd (n + 1 + nwN s most) s2 := by rw [← es2]; exact b1
  have b3' : ∀ d ∈ dd, 1 ≤ d ∧ d ≤ 3 := by rw [← edd]; exact b3
  have c1' : Hd (n + 1 + nwN s most + 1) (Sp.pick s2 ((many : Int) + 1)).2 := by rw [← es2]; exact c1
  have c2' : 0 ≤ (Sp.pick s2 ((many : Int) + 1)).1 := by rw [← es2]; exact c2
  have c3' : (Sp.pick s2 ((many : Int) + 1)).1 < (many : Int) + 1 := by rw [← es2]; exact c3
  rw [edd, es2]
  clear b1 b2 b3 c1 c2 c3
  have nw : nwN s most ≤ 24 := by
    show 1 + _ ≤ _
    omega
  refine dss_cons (ds_setO 4 (do_lst da_nil (by exact Nat.zero_le _)) fun q4 => ?_)
  refine dss_cons (ds_for (di_range1 rfl T.range (da_one (Sp.de_pick 0 N g rfl (de_add (de_v 2) de_int) rfl b1' (by omega) (by omega) (hlog _ (by omega) (by omega)))) (by omega))
    (fun i δ => ∃ x5 x6 x7, δ = [.own p (edN dd (Sp.pick s2 ((many : Int) + 1)).2 i).2.ds, .dat (nD most), .dat (nD many), .dat (nsD dd), .own q4 ((edN dd (Sp.pick s2 ((many : Int) + 1)).2 i).1.map eD), x5, x6, x7, .no]) ⟨_, _, _, rfl⟩ ?_ ?_)
  · rintro i d δ2 hi ⟨x5, x6, x7, rfl⟩
    have hlt : i < (Sp.pick s2 ((many : Int) + 1)).1.toNat := by
      have z := (List.getElem?_eq_some_iff.mp hi).1
      rw [List.length_map, List.length_range] at z
      exact z
    obtain ⟨hh, hok, hlen⟩ := edN_ok (dd := dd) c1' (by omega) b3' i
    have hT : edN dd (Sp.pick s2 ((many : Int) + 1)).2 (i + 1) = ((edN dd (Sp.pick s2 ((many : Int) + 1)).2 i).1 ++ (edT dd (edN dd (Sp.pick s2 ((many : Int) + 1)).2 i).2).1.toList, (edT dd (edN dd (Sp.pick s2 ((many : Int) + 1)).2 i).2).2) := rfl
    refine ⟨[5], _, dg_name 5, ?_⟩
    rw [hT]
    generalize edN dd (Sp.pick s2 ((many : Int) + 1)).2 i = r0 at hh hok hlen
    obtain ⟨acc, t⟩ := r0
    dsimp only at hh hok hlen ⊢
    have hn' : (0 : Int) < (dd.length : Int) := by omega
    obtain ⟨h1, u1, u2⟩ := Sp.pick_hd hh hn'
    obtain ⟨h2, v1, v2⟩ := Sp.pick_hd h1 hn'
    obtain ⟨h3, _, _⟩ := Sp.pick_hd h2 (m := 3) (by decide)
    have hdl := hlog (dd.length : Int) hn' (by omega)
    refine dss_cons (ds_par (i := 6) (j := 7) (d1 := nD (Sp.pick t dd.length).1.toNat) (d2 := nD (Sp.pick (Sp.pick t dd.length).2 dd.length).1.toNat) (δ1 := [.own p (Sp.pick (Sp.pick t dd.length).2 dd.length).2.ds, .dat (nD most), .dat (nD many), .dat (nsD dd), .own q4 (acc.map eD), .dat d, x6, x7, .no])
      (da_cons (de_is (Sp.de_pick 0 N g rfl (de_is (de_lenL T.len (de_v 3)) (by rw [List.length_map])) rfl hh (by omega) hn' hdl) (congrArg D.int (by omega))) (da_one (de_is (Sp.de_pick 0 N g rfl (de_is (de_lenL T.len (de_v 3)) (by rw [List.length_map])) rfl h1 (by omega) hn' hdl) (congrArg D.int (by omega))))) ?_ rfl rfl)
    have ha : (Sp.pick t dd.length).1.toNat < dd.length := by omega
    have hb : (Sp.pick (Sp.pick t dd.length).2 dd.length).1.toNat < dd.length := by omega
    have hal : (acc.map eD).length < 1000000 := by rw [List.length_map]; omega
    unfold edT
    dsimp only
    generalize (Sp.pick t dd.length).1.toNat = o at ha
    generalize (Sp.pick (Sp.pick t dd.length).2 dd.length).1.toNat = u at hb
    generalize (Sp.pick (Sp.pick t dd.length).2 dd.length).2 = s5 at h2 h3
    by_cases k1 : dp dd o = dp dd u
    · rw [if_pos k1]
      refine dss_cons (ds_if (m := true) (dt_is (dt_eqi (de_ixL (de_v 3) (de_v 6) (L2.atI_nat (dp_get ha))) (de_ixL (de_v 3) (de_v 7) (L2.atI_nat (dp_get hb)))) (decide_eq_true (by omega)))
        (fun _ => dss_cons (ds_app (p0 := fun h1 h2 => pe_bm PySem.F.plainAttrs_list PySem.F.slot_list_append PySem.F.type_list_append mt_append h1 h2) (d := eD ⟨o, u, if 0 < (Sp.pick s5 3).1 ∧ 1 < dp dd o then rnd else stayS⟩) (δ1 := [.own p (Sp.pick s5 3).2.ds, .dat (nD most), .dat (nD many), .dat (nsD dd), .own q4 (acc.map eD), .dat d, .dat (nD o), .dat (nD u), .no]) 4 rfl (de_tup (da_cons (de_v 6) (da_cons (de_v 7) (da_one (de_ixL (ds := [.str "stay", .str "round"]) (DO.de (do_lst (da_cons de_str (da_one de_str)) (by exact (by decide : 2 ≤ sizeLine)))) (de_intB T.int (de_and (m := decide (0 < (Sp.pick s5 3).1)) (n := decide (1 < dp dd o)) (de_gt (Sp.de_pick 0 N g rfl de_int rfl h2 (by omega) (by decide) (by decide +kernel)) de_int) fun _ => de_one (de_is (de_gt (de_ixL (de_v 3) (de_v 6) (L2.atI_nat (dp_get ha))) de_int) (congrArg D.bl (by rw [decide_eq_decide]; omega))))) ?_)))) (by exact (by decide : 3 ≤ sizeLine))) rfl hal (dss_nil (dss_nil ⟨.dat d, .dat (nD o), .dat (nD u), ?_⟩)))) (fun h => by cases h))
      · by_cases k2 : 0 < (Sp.pick s5 3).1 ∧ 1 < dp dd o
        · rw [if_pos k2, decide_eq_true k2.1, decide_eq_true k2.2]
          rfl
        · rw [if_neg k2]
          have z : (decide (0 < (Sp.pick s5 3).1) && decide (1 < dp dd o)) = false := by
            rw [Bool.and_eq_false_iff, decide_eq_false_iff_not, decide_eq_false_iff_not]
            by_cases y : 0 < (Sp.pick s5 3).1
            · exact .inr fun x => k2 ⟨y, x⟩
            · exact .inl y
          rw [z]
          rfl
      · rw [List.map_append]
        rfl
    · rw [if_neg k1]
      by_cases k2 : dp dd o = dp dd u + 1 ∨ dp dd u = dp dd o + 1
      · rw [if_pos k2]
        refine dss_cons (ds_if (m := false) (dt_is (dt_eqi (de_ixL (de_v 3) (de_v 6) (L2.atI_nat (dp_get ha))) (de_ixL (de_v 3) (de_v 7) (L2.atI_nat (dp_get hb)))) (decide_eq_false (by omega))) (fun h => by cases h)
          (fun _ => dss_cons (ds_if (m := true) (dt_is (dt_eqi (Sp.de_abs hA (de_sub (de_ixL (de_v 3) (de_v 6) (L2.atI_nat (dp_get ha))) (de_ixL (de_v 3) (de_v 7) (L2.atI_nat (dp_get hb))))) de_int) (decide_eq_true ?_))
            (fun _ => dss_cons (ds_app (p0 := fun h1 h2 => pe_bm PySem.F.plainAttrs_list PySem.F.slot_list_append PySem.F.type_list_append mt_append h1 h2) (d := eD ⟨o, u, if dp dd o < dp dd u then "enter" else "leave"⟩) (δ1 := [.own p s5.ds, .dat (nD most), .dat (nD many), .dat (nsD dd), .own q4 (acc.map eD), .dat d, .dat (nD o), .dat (nD u), .no]) 4 rfl (de_tup (da_cons (de_v 6) (da_cons (de_v 7) (da_one (de_ixL (ds := [.str "leave", .str "enter"]) (DO.de (do_lst (da_cons de_str (da_one de_str)) (by exact (by decide : 2 ≤ sizeLine)))) (de_intB (b := decide (dp dd o < dp dd u)) T.int (de_is (de_gt (de_ixL (de_v 3) (de_v 7) (L2.atI_nat (dp_get hb))) (de_ixL (de_v 3) (de_v 6) (L2.atI_nat (dp_get ha)))) (congrArg D.bl (by rw [decide_eq_decide]; omega)))) ?_)))) (by exact (by decide : 3 ≤ sizeLine))) rfl hal (dss_nil (dss_nil (dss_nil ⟨.dat d, .dat (nD o), .dat (nD u), ?_⟩))))) (fun h => by cases h))))
        · unfold Sp.absI
          split <;> omega
        · by_cases k3 : dp dd o < dp dd u
          · rw [if_pos k3, decide_eq_true k3]
            rfl
          · rw [if_neg k3, decide_eq_false k3]
            rfl
        · rw [List.map_append]
          rfl
      · rw [if_neg k2]
        refine dss_cons (ds_if (m := false) (dt_is (dt_eqi (de_ixL (de_v 3) (de_v 6) (L2.atI_nat (dp_get ha))) (de_ixL (de_v 3) (de_v 7) (L2.atI_nat (dp_get hb)))) (decide_eq_false (by omega))) (fun h => by cases h)
          (fun _ => dss_cons (ds_if (m := false) (dt_is (dt_eqi (Sp.de_abs hA (de_sub (de_ixL (de_v 3) (de_v 6) (L2.atI_nat (dp_get ha))) (de_ixL (de_v 3) (de_v 7) (L2.atI_nat (dp_get hb))))) de_int) (decide_eq_false ?_)) (fun h => by cases h) (fun _ => dss_nil (dss_nil (dss_nil ⟨.dat d, .dat (nD o), .dat (nD u), ?_⟩))))))
        · unfold Sp.absI
          split <;> omega
        · show _ = [_, _, _, _, Sl.own q4 ((acc ++ []).map eD), _, _, _, _]
          rw [List.append_nil]
          rfl
  · rintro δ2 ⟨x5, x6, x7, rfl⟩
    rw [List.length_map, List.length_range]
    refine dss_frz 4 rfl ?_
    exact dss_cons (ds_ret (de_tup (da_cons (de_v 3) (da_one (de_v 4))) (by exact (by decide : 2 ≤ sizeLine))) (by subst edd es2; exact ⟨rfl, rfl⟩))
end
end Gr

/-! part Sc1 -/
namespace Dz
open PySem PySem.Spec PyProof.Rows L2 PpSet
/-! a set comprehension whose elements are ints -/
/-- the set behind one more member -/
abbrev more1 (w : World) (D : Addr) (S : Int → Bool) (n : Nat) (c : Int) : HO := SetO w D (fun j => S j || decide (j = c)) (if S c = true then n else n + 1)
/-- D is laid ahead of the walk; W tells what holds at each turn -/
def tScI (w : World) (wi : TI) (g : TG) (tt : TT) (te : TE) (vs : List Nat) : TE := fun σ H Q =>
  wi σ H fun J H1 => ∀ D, H1 D = none → ∃ W : Nat → Nat → Hp → Prop,
    (∃ m, W 0 m (upd H1 D (SetO w D (fun _ => false) 0))) ∧
    ∀ i m H, W i m H → (J.stop i H ∧ Q (.ref D) H) ∨
      (J.go i H ∧ ∃ Nx : Hp → Prop, (∀ H', Nx H' → ∃ m', m' < m ∧ W (i + 1) m' H') ∧
        ∀ x H', J.yld i H x H' → g x (L2.wipe σ vs) H' fun σ2 H2 => L2.wipe σ2 vs = L2.wipe σ vs ∧ tt σ2 H2 fun b H3 =>
          if b = true then te σ2 H3 fun y H4 => ∃ (c : Int) (S : Int → Bool) (n : Nat), y = .int c ∧ H4 D = some (SetO w D S n) ∧ n + 1 < scanBound ∧ Nx (upd H4 D (more1 w D S n c))
          else Nx H3)
section
variable {X : Cx}
theorem addI_ok {pins : List (Addr × Obj)} {σ : L2.St} {H : Hp} {s : Shared} {E : Value → Shared → Prop} {D : Addr} {S : Int → Bool} {n : Nat} {c : Int} {tk : Tok} {Q : Value → Shared → Prop} (I : L2.Inv X pins σ H s)
    (hD : H D = some (SetO X.w D S n)) (room : n + 1 < scanBound) (h : ∀ s', L2.Inv X pins σ (upd H D (more1 X.w D S n c)) s' → Q .none s') :
    wpAny (model X.prog X.w) X.A (call (.builtin "set.add") [.ref D, .int c tk]) Q E s := by
  refine setR_add (setO_get I hD) room fun hp sb fresh => h _ ?_
  obtain ⟨ob, _, _, _, hob, _⟩ := id fresh
  refine I.write (e := D) (t' := s.toks + 1) (by rw [hD]; trivial) (.inl rfl) (fun b u nb hu => ?_) ⟨ob, hob⟩ (setO_new fresh)
  rw [sb.2 b nb]
  exact hu
/-- the empty set, as newSet lays it -/
abbrev emptyO (w : World) : Obj := { cls := .type "set", dict := none, data := .set #[] 0 (.fresh 0 0 (!w.params.followText "set-order")) }
theorem core {pins : List (Addr × Obj)} {s : Shared} {σ : L2.St} {H : Hp} {Q : VK} {elt tg iter : Expr} {ifs : List Expr} {scope : Scope} {own : List (PySem.Str × Nat)} {pos pos' : Pos} {wi : TI} {g : TG} {tt : TT} {te : TE} {Qf : Value → Shared → Prop}
    (hc : X.calm = true) (hN : X.N.Nodup) (I : L2.Inv X pins σ H s) (hi : PI X tg iter wi) (ok : BlkOk X.N X.env.scope scope own)
    (hg : ∀ (s : Shared) (H : Hp) (C : Addr) (cl : List (PySem.Str × Addr)) (fp : List Addr), PG (X.blk s H scope (compEnvC scope cl C X.env) fp) tg g)
    (ht : ∀ (s : Shared) (H : Hp) (C : Addr) (cl : List (PySem.Str × Addr)) (fp : List Addr), PTs (X.blk s H scope (compEnvC scope cl C X.env) fp) ifs tt)
    (he : ∀ (s : Shared) (H : Hp) (C : Addr) (cl : List (PySem.Str × Addr)) (fp : List Addr), PE (X.blk s H scope (compEnvC scope cl C X.env) fp) elt te)
    (hs : ∀ x, foldedSetIterable iter X.env x = pure x) (h : tScI X.w wi g tt te (own.map (·.2)) σ H Q)
    (last : ∀ D C s' m H', L2.Inv X pins σ H' s' → Q (.ref D) H' → s'.heap.Ns C m → FpOk X pins H' C → compPost (model X.prog X.w) X.A X.xe none Qf (.ref D) C (.ok .next) s') :
    wpAny (model X.prog X.w) X.A (comprehension (.SetComp elt [⟨tg, iter, ifs, 0⟩] scope pos) scope X.env pos' (newSet (.type "set")) false (eval iter X.env) none) Qf X.xe s := by
  have cellsOf : ∀ y ∈ scope.names, y.2 = .free → ∃ c, X.env.cells.lookup y.1 = some c := fun y hy e => (ok.free y hy e).elim (fun k => I.ok.has _ (.inl k)) fun k => I.ok.has _ (.inr k)
  refine wpAny_comprehension_free (use := none) rfl hs (closure_ok cellsOf) ok.kind (fun y hy e => by rw [ok.uniq y hy, e]) (thn (hi.run pins s σ H _ I h) fun xv sA hA => thn hA fun itv sB hB => ?_)
  obtain ⟨it, fp, tn, J, HB, rfl, IB, T, stB, fB, q⟩ := hB
  refine newSet_ok (newEnv_comp ?_)
  obtain ⟨D, hD⟩ : ∃ D, D = sB.heap.objs.size := ⟨_, rfl⟩
  rw [← hD]
  have free : HB D = none := IB.hok.fresh (Nat.le_of_eq hD.symm)
  obtain ⟨W, ⟨m0, w0⟩, turn⟩ := q D free
  obtain ⟨sC, hC⟩ : ∃ sC : Shared, sC = { sB with heap := sB.heap.push (emptyO X.w) } := ⟨_, rfl⟩
  rw [show ({ sB with heap := sB.heap.push (emptyO X.w) } : Shared) = sC from hC.symm]
  have heapC : sC.heap = sB.heap.push (emptyO X.w) := by rw [hC]
  have IC : L2.Inv X pins σ (upd HB D (SetO X.w D (fun _ => false) 0)) sC := by
    rw [hC]
    refine IB.laid (t' := sB.toks) (fun b o e => Heap.get?_push_of_some _ e) (Nat.le_of_eq hD.symm) ?_
    rw [hD]
    exact setO_new (setR_fresh X.w)
  have there : ∀ b ∈ fp, b < sB.heap.objs.size := fun b hb => (T.obj _ _ stB b hb).elim fun o z => Heap.lt_size z.1
  have fC : ∀ b ∈ fp, FpOk X pins (upd HB D (SetO X.w D (fun _ => false) 0)) b ∧ b < sC.heap.objs.size := fun b hb => by
    have lt := there b hb
    refine ⟨⟨(upd_ne (by rw [hD]; exact Nat.ne_of_lt lt)).trans (fB b hb).1, (fB b hb).2⟩, ?_⟩
    rw [heapC, Heap.size_push]
    exact Nat.lt_succ_of_lt lt
  have stC : tn 0 sC.heap := T.keep _ _ _ stB fun b _ o e => by
    rw [heapC]
    exact Heap.get?_push_of_some _ e
  have ID := block_start IC ok hN fC
  obtain ⟨HC, hHC⟩ : ∃ HC, HC = upd HB D (SetO X.w D (fun _ => false) 0) := ⟨_, rfl⟩
  obtain ⟨ce, hce⟩ : ∃ ce, ce = compEnvC scope (cellsFrom (sC.heap.objs.size + 1) scope.names (cloFrom X.env.cells scope.names [])) sC.heap.objs.size X.env := ⟨_, rfl⟩
  have pg := hg sC HC sC.heap.objs.size (cellsFrom (sC.heap.objs.size + 1) scope.names (cloFrom X.env.cells scope.names [])) fp
  have pt := ht sC HC sC.heap.objs.size (cellsFrom (sC.heap.objs.size + 1) scope.names (cloFrom X.env.cells scope.names [])) fp
  have pe := he sC HC sC.heap.objs.size (cellsFrom (sC.heap.objs.size + 1) scope.names (cloFrom X.env.cells scope.names [])) fp
  rw [← hce] at pg pt pe ID
  rw [← hHC] at IC ID fC w0
  obtain ⟨sD, hsD⟩ : ∃ sD : Shared, sD = { sC with heap := pushCells (sC.heap.push { cls := .type "dict", data := .dict #[] }) scope.names } := ⟨_, rfl⟩
  rw [← hsD] at ID
  show codeAny _ _ (.compStart (.SetComp elt [⟨tg, iter, ifs, 0⟩] scope pos) 0 (.ref it) (.ref D) (compEnvC scope (cellsFrom (sC.heap.objs.size + 1) scope.names (cloFrom X.env.cells scope.names [])) sC.heap.objs.size X.env)) (compPost (model X.prog X.w) X.A X.xe none Qf (.ref D) sC.heap.objs.size) { sC with heap := pushCells (sC.heap.push { cls := .type "dict", data := .dict #[] }) scope.names }
  rw [← hce, ← hsD]
  have locals : ce.locals = sC.heap.objs.size := by rw [hce]; rfl
  have none0 : ∀ b ∈ fp, HC b = none := fun b hb => (fC b hb).1.1
  have stD : tn 0 sD.heap := T.keep _ _ _ stC fun b _ o e => by
    rw [hsD]
    exact pushCells_keeps _ _ _ _ (Heap.get?_push_of_some _ e)
  have seen : ∀ {σ' : L2.St} {H' : Hp} {s' : Shared}, L2.Inv (X.blk sC HC scope ce fp) [] σ' H' s' → (∀ b ∈ fp, H' b = none) → ∀ b ∈ fp, FpOk (X.blk sC HC scope ce fp) [] H' b :=
    fun {σ' H' s'} I' nn b hb => ⟨nn b hb, (I'.ok.exf b hb).1, I'.ok.exfs b hb, .inl hb, fun x c e => (I'.ok.exf b hb).2 x c e, fun p hp => nomatch (show p ∈ ([] : List (Addr × Obj)) from hp)⟩
  have loop : codeAny (model X.prog X.w) X.A (.compLoop (.SetComp elt [⟨tg, iter, ifs, 0⟩] scope pos) 0 (.ref it) (.ref D) ce) (compPost (model X.prog X.w) X.A X.xe none Qf (.ref D) sC.heap.objs.size) sD := by
    refine compLoopS_any (fun n s' => ∃ i H', L2.Inv (X.blk sC HC scope ce fp) [] (L2.wipe σ (own.map (·.2))) H' s' ∧ tn i s'.heap ∧ (∀ b ∈ fp, H' b = none) ∧ W i n H') ?_ m0 ⟨0, HC, ID, stD, none0, w0⟩
    rintro n s1 ⟨i, H1, I1, st1, n1, w1⟩
    rcases turn i n H1 w1 with ⟨stop, qq⟩ | ⟨go, Nx, hNx, step⟩
    · refine thnF (T.done (X.blk sC HC scope ce fp) rfl rfl rfl hc i [] s1 _ H1 (fun _ _ => False) I1 (seen I1 n1) st1 stop) fun r s2 ⟨hr, I2⟩ => ?_
      subst hr
      have back : L2.Inv X pins σ H1 s2 := IC.call' (ch := fp) I2.os I2.base I2.hok I2.bare fun b hb => by
        obtain ⟨⟨_, z1, z2, z3, z4, z5⟩, _⟩ := fC b hb
        exact ⟨z3, z1, z4, z5⟩
      have nC : H1 sC.heap.objs.size = none := locals ▸ (show H1 ce.locals = none from I2.free)
      obtain ⟨m, hn, _⟩ := I2.loc
      have hn' : s2.heap.Ns sC.heap.objs.size m := locals ▸ (show s2.heap.Ns ce.locals m from hn)
      exact last D sC.heap.objs.size s2 m H1 back qq hn' (IC.fpOk (Nat.le_refl _) nC)
    · refine thnF (T.item (X.blk sC HC scope ce fp) rfl rfl rfl hc i [] s1 _ H1 (fun _ _ => False) I1 (seen I1 n1) st1 go) fun r s2 ⟨u, hr, hu⟩ => ?_
      subst hr
      refine thnF hu fun _ s3 ⟨x, H3, I3, r3, y3, st3, n3⟩ => ?_
      refine thnF (pg.run _ s3 _ H3 x u _ (I3.pinned (seen I3 n3) (T.obj _ _ st3)) r3 (step x H3 y3)) fun _ s4 ⟨σ4, H4, I4, w4, q4⟩ => ?_
      refine thnF (pt.run _ s4 σ4 H4 _ I4 q4) fun b s5 ⟨H5, I5, q5⟩ => ?_
      have turned : ∀ {s' : Shared} {H' : Hp}, L2.Inv (X.blk sC HC scope ce fp) ([] ++ pinsAt fp s3.heap) σ4 H' s' → Nx H' →
          ∃ m, m < n ∧ ∃ i H', L2.Inv (X.blk sC HC scope ce fp) [] (L2.wipe σ (own.map (·.2))) H' s' ∧ tn i s'.heap ∧ (∀ b ∈ fp, H' b = none) ∧ W i m H' := fun {s' H'} I' nx => by
        obtain ⟨m', lt, w'⟩ := hNx H' nx
        have still : ∀ b ∈ fp, ∀ o, s3.heap.get? b = some o → s'.heap.get? b = some o ∧ H' b = none := fun b hb o e => by
          have z := I'.pin (b, o) (List.mem_append_right _ (List.mem_append_right _ (mem_pinsAt hb e)))
          exact ⟨z.1, z.2.1⟩
        refine ⟨m', lt, i + 1, H', (I'.unpinned (pins := [])).weak (by rw [← w4, wipe_length]) (fun j v e => (wipe_some (by rw [← w4] at e; exact e)).1), T.keep _ _ _ st3 fun b hb o e => (still b hb o e).1, fun b hb => ?_, w'⟩
        exact (T.obj _ _ st3 b hb).elim fun o z => (still b hb o z.1).2
      cases b with
      | false =>
        rw [if_neg (by decide)] at q5 ⊢
        exact turned I5 q5
      | true =>
        rw [if_pos rfl] at q5 ⊢
        refine thnF (pe.run _ s5 σ4 H5 _ I5 q5) fun z s6 ⟨yv, H6, I6, r6, c, S0, n0, ey, at6, room6, nx⟩ => ?_
        subst ey
        obtain ⟨tk, rfl⟩ := r6
        exact addI_ok (X := X.blk sC HC scope ce fp) I6 at6 room6 fun s7 I7 => turned I7 nx
  exact codeAny_compStart_set loop (T.self X.A 0 _ _ _ stD loop)
/-- {elt for tg in iter if ..}, ints -/
theorem pe_scI {elt tg iter : Expr} {ifs : List Expr} {scope : Scope} {own : List (PySem.Str × Nat)} {pos : Pos} {wi : TI} {g : TG} {tt : TT} {te : TE} (hc : X.calm = true) (hN : X.N.Nodup) (hi : PI X tg iter wi) (ok : BlkOk X.N X.env.scope scope own)
    (hg : ∀ (s : Shared) (H : Hp) (C : Addr) (cl : List (PySem.Str × Addr)) (fp : List Addr), PG (X.blk s H scope (compEnvC scope cl C X.env) fp) tg g)
    (ht : ∀ (s : Shared) (H : Hp) (C : Addr) (cl : List (PySem.Str × Addr)) (fp : List Addr), PTs (X.blk s H scope (compEnvC scope cl C X.env) fp) ifs tt)
    (he : ∀ (s : Shared) (H : Hp) (C : Addr) (cl : List (PySem.Str × Addr)) (fp : List Addr), PE (X.blk s H scope (compEnvC scope cl C X.env) fp) elt te)
    (hs : ∀ x, foldedSetIterable iter X.env x = pure x) : PE X (.SetComp elt [⟨tg, iter, ifs, 0⟩] scope pos) (tScI X.w wi g tt te (own.map (·.2))) := by
  refine ⟨fun pins s σ H Q I h => ?_⟩
  rw [eval_SetComp]
  refine core hc hN I hi ok hg ht he hs h fun D C s' m H' I' q hn fr => ⟨m, hn, fun h2 sb => ?_⟩
  obtain ⟨f0, f1, f2, f3, f4, f5⟩ := fr
  exact ⟨.ref D, H', I'.turned (t' := s'.toks) (fun b o nb e => (sb.2 b nb).trans e) f0 f1 f3 f4 f5, rfl, q⟩
end
end Dz

/-! part Ly24 -/
namespace Dy
open PySem PySem.Spec PyProof.Rows L2
section
variable {X : Cx}
/-- the members so far -/
def mem0 (b : D → Bool) (g : D → Int) (items : List D) (i : Nat) : List Int := ((items.take i).filter b).map g
theorem mem0_succ {b : D → Bool} {g : D → Int} {items : List D} {i : Nat} {d : D} (h : items[i]? = some d) : mem0 b g items (i + 1) = mem0 b g items i ++ if b d = true then [g d] else [] := by
  unfold mem0
  rw [List.take_add_one, h, List.filter_append, List.map_append]
  congr 1
  show (List.filter b [d]).map g = _
  split
  · rename_i q
    rw [List.filter_cons_of_pos q]
    rfl
  · rename_i q
    rw [List.filter_cons_of_neg q]
    rfl
theorem sc_read {tg it elt : Expr} {ifs : List Expr} {scope : Scope} {vs : List Nat} {δ δ1 δw : List Sl} {items : List D} (b : D → Bool) (g : D → Int) (hi : DI X tg it δ items δ1) (hw : wipeD δ1 vs = δw)
    (hs : ∀ d ∈ items, ∃ ws δ3 δ4, (∀ j ∈ ws, j ∈ vs) ∧ (Bk X scope fun Y => DG Y tg d ws δw δ3) ∧ (Bk X scope fun Y => DTs Y ifs δ3 (b d) δ4) ∧ wipeD δ4 vs = δw ∧ (b d = true → ∃ δ5, (Bk X scope fun Y => DE Y elt δ4 (.int (g d)) δ5) ∧ wipeD δ5 vs = δw))
    (hz : items.length ≤ 4000) {F R H : Hp} {σ : L2.St} {Q : VK} (s : StOk X.K F R H σ δ)
    (k : ∀ p S n R2 H2, Tr F R R2 → StOk X.K F R2 H2 σ δw → F p = none → R2 p = none → H2 p = some (SetO X.w p S n) → (∀ k, S k = true ↔ k ∈ (items.filter b).map g) → n ≤ items.length → (∀ (i : Nat) (es : List D), δw[i]? ≠ some (.own p es)) → Q (.ref p) H2) :
    Dz.tScI X.w (wI X tg it) (bG X scope tg) (bT X scope ifs) (bE X scope elt) vs σ H Q := by
  refine hi F R H σ _ s fun J R1 H1 t1 s1 w D hD => ?_
  have hF : F D = none := s1.fr.free hD
  have hR1 : R1 D = none := s1.rg.free hD
  have noC0 : ∀ (i : Nat) (hf : NestedKey → Int) (ks vs : List Dy.D), δw[i]? ≠ some (.odc hf D ks vs) := by
    rw [← hw]
    exact (s1.wipe vs).noC fun hf M z => by rw [hD] at z; cases z
  refine ⟨fun i m H' => ∃ R' S n, Tr F R1 R' ∧ StOk X.K F R' H' (L2.wipe σ vs) δw ∧ R' D = none ∧ H' D = some (SetO X.w D S n) ∧ (∀ k, S k = true ↔ k ∈ mem0 b g items i) ∧ n ≤ i ∧ (∀ (i : Nat) (es : List Dy.D), δw[i]? ≠ some (.own D es)) ∧ i ≤ items.length ∧ m = items.length - i,
    ⟨_, R1, _, 0, Tr.refl _ _, by rw [← hw]; exact (s1.off hD).wipe vs, hR1, upd_same, fun k => by simp [mem0], Nat.le_refl _, fun i es q => ?_, Nat.zero_le _, rfl⟩, ?_⟩
  · have z := (s1.wipe vs).at_ i _ (by rw [hw]; exact q)
    obtain ⟨_, _, _, ys, hy, _⟩ := z
    rw [hD] at hy
    cases hy
  rintro i m H2 ⟨R2, S, n, t2, s2, hR2, hD2, hS, hn, no, hi2, rfl⟩
  have rg2 : Same R1 H2 := t2.ex.trans s2.rg
  by_cases hlt : i < items.length
  · refine .inr ⟨w.go i H2 rg2 hlt, fun H' => ∃ R' S n, Tr F R1 R' ∧ StOk X.K F R' H' (L2.wipe σ vs) δw ∧ R' D = none ∧ H' D = some (SetO X.w D S n) ∧ (∀ k, S k = true ↔ k ∈ mem0 b g items (i + 1)) ∧ n ≤ i + 1,
      fun H' ⟨R', S', n', a1, a2, a3, a4, a5, a6⟩ => ⟨items.length - (i + 1), by omega, R', S', n', a1, a2, a3, a4, a5, a6, no, hlt, rfl⟩, fun x H3 y => ?_⟩
    obtain ⟨ws, δ3, δ4, hws, gg, ts, h4, fin⟩ := hs _ (List.getElem_mem hlt)
    have hm := mem0_succ (b := b) (g := g) (List.getElem?_eq_getElem hlt)
    have go : ∀ {R3 : Hp}, Tr F R1 R3 → StOk X.K F R3 H3 (L2.wipe σ vs) δw → Is X.K R3 x items[i] → R3 D = none → H3 D = some (SetO X.w D S n) →
        bG X scope tg x (L2.wipe σ vs) H3 fun σ2 H4 => L2.wipe σ2 vs = L2.wipe σ vs ∧ bT X scope ifs σ2 H4 fun b' H5 => if b' = true then bE X scope elt σ2 H5 fun y H6 => ∃ (c : Int) (S : Int → Bool) (n : Nat), y = .int c ∧ H6 D = some (SetO X.w D S n) ∧ n + 1 < scanBound ∧
          (∃ R' S' n', Tr F R1 R' ∧ StOk X.K F R' (upd H6 D (Dz.more1 X.w D S n c)) (L2.wipe σ vs) δw ∧ R' D = none ∧ (upd H6 D (Dz.more1 X.w D S n c)) D = some (SetO X.w D S' n') ∧ (∀ k, S' k = true ↔ k ∈ mem0 b g items (i + 1)) ∧ n' ≤ i + 1)
          else ∃ R' S' n', Tr F R1 R' ∧ StOk X.K F R' H5 (L2.wipe σ vs) δw ∧ R' D = none ∧ H5 D = some (SetO X.w D S' n') ∧ (∀ k, S' k = true ↔ k ∈ mem0 b g items (i + 1)) ∧ n' ≤ i + 1 := by
      intro R3 t3 s3 ix hR3 hD3 s' H' C cl fp
      obtain ⟨u3, fu⟩ := s3.up
      have hFv : frm H3 δw D = some (SetO X.w D S n) := by rw [frm_not no noC0, hD3]
      have hFu : frm H3 δw D ≠ none := by rw [hFv]; exact fun z => by cases z
      refine gg s' H' C cl fp (frm H3 δw) R3 H3 _ x _ u3 ix fun σ2 l2 g2 u4 => ?_
      have we : L2.wipe σ2 vs = L2.wipe σ vs := wipe_same l2 g2 hws
      refine ⟨we, fun s' H' C cl fp => ts s' H' C cl fp (frm H3 δw) R3 H3 σ2 _ u4 fun R5 H5 t5 u5 => ?_⟩
      cases hb : b items[i] with
      | false =>
        rw [if_neg (by decide)]
        have u6 := u5.wipe vs
        rw [we, h4] at u6
        refine ⟨R5, S, n, t3.trans (t5.low fu), u6.low fu, t5.nw D hFu hR3, u5.fr D _ hFv, fun k => ?_, by omega⟩
        rw [hm, if_neg (by rw [hb]; decide), List.append_nil]
        exact hS k
      | true =>
        rw [if_pos rfl]
        obtain ⟨δ5, he, h5⟩ := fin hb
        intro s' H' C cl fp
        refine he s' H' C cl fp (frm H3 δw) R5 H5 σ2 _ u5 fun yv R6 H6 t6 u6 iy => ?_
        cases iy
        have u7 := u6.wipe vs
        rw [we, h5] at u7
        have t36 := t5.trans t6
        refine ⟨g items[i], S, n, rfl, u6.fr D _ hFv, by show n + 1 < 4096; omega, R6, _, _, t3.trans (t36.low fu), (u7.low fu).write hF (t36.nw D hFu hR3) no noC0, t36.nw D hFu hR3, upd_same, fun k => ?_, by split <;> omega⟩
        rw [hm, if_pos hb, List.mem_append, List.mem_singleton, ← hS k, Bool.or_eq_true, decide_eq_true_eq]
    rcases w.yld i _ H2 x H3 R2 t2.ex s2.rg (List.getElem?_eq_getElem hlt) y with ⟨rfl, ix⟩ | ⟨T, o, hT, rfl, ix⟩
    · exact go t2 s2 ix hR2 hD2
    · obtain ⟨s3, t3⟩ := s2.new (o := o) hT
      have hn : D ≠ T := ne_of_none hD2 hT
      exact go (t2.trans t3) s3 ix (by rw [upd_ne hn]; exact hR2) (by rw [upd_ne hn]; exact hD2)
  · have e : i = items.length := by omega
    subst e
    have ea : mem0 b g items items.length = (items.filter b).map g := by unfold mem0; rw [List.take_length]
    rw [ea] at hS
    exact .inl ⟨w.stop H2 rg2, k D S n R2 H2 (t1.trans t2) s2.unwipe hF hR2 hD2 hS hn no⟩
/-- sorted({elt for tg in it if ..}), ints, fewer than 64 items -/
theorem do_sortSc {tg it elt : Expr} {ifs : List Expr} {scope : Scope} {own : List (Str × Nat)} {p pos cpos : Pos} {δ δ1 δw : List Sl} {items : List D} (b : D → Bool) (g : D → Int) (hm : X.mg "sorted" = none) (ok : BlkOk X.N X.env.scope scope own) (hi : DI X tg it δ items δ1) (hw : wipeD δ1 (own.map (·.2)) = δw)
    (hs : ∀ d ∈ items, ∃ ws δ3 δ4, (∀ j ∈ ws, j ∈ own.map (·.2)) ∧ (Bk X scope fun Y => DG Y tg d ws δw δ3) ∧ (Bk X scope fun Y => DTs Y ifs δ3 (b d) δ4) ∧ wipeD δ4 (own.map (·.2)) = δw ∧ (b d = true → ∃ δ5, (Bk X scope fun Y => DE Y elt δ4 (.int (g d)) δ5) ∧ wipeD δ5 (own.map (·.2)) = δw))
    (hz : items.length < 64) (hc : X.calm = true := by rfl) (hN : X.N.Nodup := by first | assumption | decide) (hf : ∀ x, foldedSetIterable it X.env x = pure x := by intro _; rfl) (hg : Gl X "sorted" := by rfl)
    (na : starEach [.SetComp elt [⟨tg, it, ifs, 0⟩] scope cpos] X.env = (false, eval (.SetComp elt [⟨tg, it, ifs, 0⟩] scope cpos) X.env) :: starEach [] X.env := by rfl) (hpl : (backTo pos (starEach [] X.env)).any (·.1) = false := by rfl) :
    DO X (.Call (.Name "sorted" p) [.SetComp elt [⟨tg, it, ifs, 0⟩] scope cpos] [] pos) δ ((usort ((items.filter b).map g)).map D.int) δw := fun F R H σ Q s k => by
  refine (pe_callB (cr_sortedSet hc) hg hm PyProof.Rows.boot_sorted (pa_cons (Dz.pe_scI hc hN piW ok bG_ok bT_ok bE_ok hf) pa_nil na) (by decide) (by decide) na hpl).w ?_
  show Dz.tScI X.w (wI X tg it) (bG X scope tg) (bT X scope ifs) (bE X scope elt) (own.map (·.2)) σ H (fun x H1 => rSortedSet X.w [x] H1 Q)
  refine sc_read b g hi hw hs (by omega) s fun p S n R2 H2 t2 s2 hF hR hp hS hn no => ⟨p, S, n, rfl, hp, by omega, fun ns r pw mem len hr => ?_⟩
  have e : ns = usort ((items.filter b).map g) := asc_unique pw (usort_asc _) fun k => by rw [mem k, hS k, mem_usort]
  rw [e]
  have s3 : StOk X.K F R2 (upd H2 r (.lst ((usort ((items.filter b).map g)).map V.int))) σ δw := s2.off hr
  exact k r _ R2 _ t2 s3 (s2.fr.free hr) (s2.rg.free hr) upd_same (isA_ints _) fun i es z => by
    obtain ⟨_, _, _, ys, hy, _⟩ := s2.at_ i _ z
    rw [hr] at hy
    cases hy
end
end Dy

/-! part Bs7 -/
namespace Bs
open PySem PySem.Spec PyProof.Rows L2 Dy Dk
theorem sub_map {α β : Type} {f : α → β} {zs : List α} : ∀ {L : List β}, (∀ p ∈ L, p ∈ zs.map f) → ∃ Z : List α, L = Z.map f ∧ ∀ z ∈ Z, z ∈ zs
  | [], _ => ⟨[], rfl, fun z hz => absurd hz List.not_mem_nil⟩
  | p :: L, h => by
    obtain ⟨z, hz, e⟩ := List.mem_map.mp (h p List.mem_cons_self)
    obtain ⟨Z, e2, h2⟩ := sub_map fun q hq => h q (List.mem_cons_of_mem _ hq)
    refine ⟨z :: Z, by rw [List.map_cons, e, e2], fun y hy => ?_⟩
    rcases List.mem_cons.mp hy with e3 | hy
    · rw [e3]; exact hz
    · exact h2 y hy
def ad : V → Addr
  | .ref a => a
  | _ => 0
section
variable {X : Cx} {a : Expr} {p p2 q pos : Pos} {δ δ1 : List Sl}
/-- sorted(set(xs)), xs a list of tuples of numbers, None and such tuples, not more than 306 different ones -/
theorem do_sortSetB {β : Type} {enc : β → D} {bs rs : List β} {n : Nat} (hm : X.mg "sorted" = none) (hm2 : X.mg "set" = none) (hu : X.A.units + 64 < cLine) (h : DE X a δ (.lst (bs.map enc)) δ1) (tp : ∀ b ∈ bs, ∃ ds, enc b = .tup ds) (ko : ∀ b ∈ bs, KO 8 (enc b))
    (ok : ∀ b ∈ bs, okD n (enc b) = true) (hn : n ≤ 40) (few : Few (bs.map fun b => kD (enc b))) (hal : PySem.W.AllAlike (bs.map fun b => py (enc b))) (hk : PySem.W.Sortable (bs.map fun b => py (enc b)))
    (hrs : ∀ M : List β, (∀ b ∈ M, b ∈ bs) → (∀ b ∈ bs, kD (enc b) ∈ M.map fun b => kD (enc b)) → (M.map fun b => kD (enc b)).Nodup → M.mergeSort (PySem.W.dataLe false fun b => py (enc b)) = rs) (hc : X.calm = true := by rfl) (hg : Gl X "sorted" := by rfl) (hg2 : Gl X "set" := by rfl)
    (na : starEach [a] X.env = (false, eval a X.env) :: starEach [] X.env := by exact st_any rfl) (na2 : starEach [.Call (.Name "set" p2) [a] [] q] X.env = (false, eval (.Call (.Name "set" p2) [a] [] q) X.env) :: starEach [] X.env := by rfl) (hpl : (backTo q (starEach [] X.env)).any (·.1) = false := by rfl) (hpl2 : (backTo pos (starEach [] X.env)).any (·.1) = false := by rfl) :
    DO X (.Call (.Name "sorted" p) [.Call (.Name "set" p2) [a] [] q] [] pos) δ (rs.map enc) δ1 := fun F R H σ Q s k =>
  (pe_callB (cr_sortedB hc hu) hg hm PyProof.Rows.boot_sorted (pa_cons (pe_callTy (cr_setB hc hu) hg2 hm2 PyProof.Rows.boot_set paW (by decide) (by decide) na hpl) pa_nil na2) (by decide) (by decide) na2 hpl2).w ((da_one h na) F R H σ _ s fun vs R1 H1 t1 s1 ia => by
    cases ia with
    | cons i1 i2 =>
      cases i2
      cases i1 with
      | @lst l xs _ qa ib =>
        obtain ⟨zs, rfl, e2, e3⟩ := isA_zip ib
        have hmem : ∀ z ∈ zs, z.2 ∈ bs := fun z hz => by rw [← e2]; exact List.mem_map_of_mem hz
        have href : ∀ z ∈ zs, V.ref (ad z.1) = z.1 := fun z hz => by
          obtain ⟨ds, ed⟩ := tp _ (hmem z hz)
          have i := e3 z hz
          rw [ed] at i
          generalize z.1 = v at i ⊢
          cases i
          rfl
        obtain ⟨f, hf⟩ : ∃ f : V × β → Addr × NestedKey, f = fun z => (ad z.1, kD (enc z.2)) := ⟨_, rfl⟩
        have f1 : ∀ z ∈ zs, V.ref (f z).1 = z.1 := fun z hz => by rw [hf]; exact href z hz
        have f2 : ∀ z, (f z).2 = kD (enc z.2) := fun z => by rw [hf]
        have f3 : ∀ z ∈ zs, (f z).2.data = py (enc z.2) := fun z hz => by rw [f2]; exact kD_data (ko _ (hmem z hz))
        have kemk : ∀ {H' : Hp}, Same R1 H' → ∀ z ∈ zs, Ke X.K H' (f z) := fun e z hz => by
          refine ⟨?_, by rw [f2]; exact kD_depth (ko _ (hmem z hz)), by rw [f2]; exact kD_num (ko _ (hmem z hz))⟩
          rw [f1 z hz, f2]
          exact is_nk e (ko _ (hmem z hz)) (e3 z hz)
        have ek : (zs.map f).map (fun p => V.ref p.1) = zs.map (·.1) := by
          rw [List.map_map]
          exact List.map_congr_left f1
        have ek2 : (zs.map f).map (·.2) = bs.map fun b => kD (enc b) := by
          rw [List.map_map, ← e2, List.map_map]
          exact List.map_congr_left fun z _ => f2 z
        refine ⟨l, zs.map f, rfl, by rw [ek]; exact SqL.of (s1.rg _ _ qa), ?_, by rw [ek2]; exact few, fun b L hb sub sup nd => ?_⟩
        · intro p hp
          obtain ⟨z, hz, rfl⟩ := List.mem_map.mp hp
          exact kemk s1.rg z hz
        have s2 := s1.off (o := SetB X.w b L) hb
        have kL : ∀ p ∈ L, ∃ z ∈ zs, f z = p := fun p hp => List.mem_map.mp (sub p hp)
        have dL : ∀ d ∈ L.map (fun p => p.2.data), d ∈ bs.map fun b => py (enc b) := fun d hd => by
          obtain ⟨p, hp, rfl⟩ := List.mem_map.mp hd
          obtain ⟨z, hz, rfl⟩ := kL p hp
          rw [f3 z hz]
          exact List.mem_map_of_mem (f := fun b => py (enc b)) (hmem z hz)
        refine ⟨b, L, rfl, upd_same, ?_, ?_, fun d hd d' hd' => hal d (dL d hd) d' (dL d' hd'), ?_, ?_, fun M r pm hr => ?_⟩
        · intro p hp
          obtain ⟨z, hz, rfl⟩ := kL p hp
          exact kemk s2.rg z hz
        · intro p hp
          obtain ⟨z, hz, rfl⟩ := kL p hp
          rw [f1 z hz, f3 z hz]
          exact ok_dp s2.rg n _ _ (ok _ (hmem z hz)) (e3 z hz)
        · rcases hk with g | g
          · exact .inl fun d hd => g d (dL d hd)
          · exact .inr fun d hd => g d (dL d hd)
        · intro p hp
          obtain ⟨z, hz, rfl⟩ := kL p hp
          rw [f3 z hz]
          exact Nat.le_trans (ok_depth n _ (ok _ (hmem z hz))) hn
        · obtain ⟨Z, rfl, hZ⟩ := sub_map fun p hp => sub p (pm.mem_iff.mp hp)
          have es : (Z.map f).mergeSort (PySem.W.dataLe false fun q => q.2.data) = (Z.mergeSort (PySem.W.dataLe false fun z => py (enc z.2))).map f :=
            (PySem.W.sort_maps f fun x hx y hy => by
              rw [PySem.W.dataLe_eq, PySem.W.dataLe_eq]
              show cond false _ _ = cond false _ _
              simp only [cond_false]
              rw [f3 x (hZ x hx), f3 y (hZ y hy)]).symm
          have eM : (Z.map (·.2)).mergeSort (PySem.W.dataLe false fun b => py (enc b)) = rs := by
            have e5 : (Z.map (·.2)).map (fun b => kD (enc b)) = (Z.map f).map (·.2) := by
              rw [List.map_map, List.map_map]
              exact List.map_congr_left fun z _ => (f2 z).symm
            refine hrs _ (fun b hb => ?_) (fun b hb => ?_) ?_
            · obtain ⟨z, hz, rfl⟩ := List.mem_map.mp hb
              exact hmem z (hZ z hz)
            · rw [e5, (pm.map (·.2)).mem_iff]
              have hb' := hb
              rw [← e2] at hb'
              obtain ⟨z, hz, rfl⟩ := List.mem_map.mp hb'
              rw [← f2 z]
              exact sup (f z) (List.mem_map_of_mem hz)
            · rw [e5]
              exact (pm.map (·.2)).nodup_iff.mpr nd
          have e4 : (Z.mergeSort (PySem.W.dataLe false fun z => py (enc z.2))).map (·.2) = (Z.map (·.2)).mergeSort (PySem.W.dataLe false fun b => py (enc b)) := PySem.W.sort_maps (fun z : V × β => z.2) (fun a _ b _ => rfl)
          rw [es, List.map_map]
          have e6 : (Z.mergeSort (PySem.W.dataLe false fun z => py (enc z.2))).map ((fun q => V.ref q.1) ∘ f) = (Z.mergeSort (PySem.W.dataLe false fun z => py (enc z.2))).map (·.1) := List.map_congr_left fun z hz => f1 z (hZ z (List.mem_mergeSort.mp hz))
          rw [e6]
          have i3 : IsA X.K R1 ((Z.mergeSort (PySem.W.dataLe false fun z => py (enc z.2))).map (·.1)) (rs.map enc) := by
            have q := zip_isA (enc := enc) (zs := Z.mergeSort (PySem.W.dataLe false fun z => py (enc z.2))) fun z hz => e3 z (hZ z (List.mem_mergeSort.mp hz))
            rw [e4, eM] at q
            exact q
          exact k r _ R1 _ t1 (s2.off hr) (s2.fr.free hr) (s2.rg.free hr) upd_same i3 fun i es z => by
            obtain ⟨_, _, _, ys, hy, _⟩ := s2.at_ i _ z
            rw [hr] at hy
            cases hy)
end
/-- few different times -/
def FewT (ts : List (List Int)) : Prop := (tsort ts).length ≤ 306
theorem ko_tI {n : Nat} (t : List Int) : KO (n + 1) (tI t) := .tup fun d hd => by
  obtain ⟨i, _, rfl⟩ := List.mem_map.mp hd
  exact .int i
theorem kD_tI (t : List Int) : kD (tI t) = .tup (t.map .num) := by
  show NestedKey.tup (kD.kDs (t.map D.int)) = _
  rw [kDs_map, List.map_map]
  rfl
theorem kD_inj {t u : List Int} (h : kD (tI t) = kD (tI u)) : t = u := by
  have e := congrArg NestedKey.data h
  rw [kD_data (ko_tI (n := 7) t), kD_data (ko_tI (n := 7) u)] at e
  exact py_tI_inj e
theorem few_of {ts : List (List Int)} (h : FewT ts) : Few (ts.map fun t => kD (tI t)) := by
  intro M nd hM
  have hM' : ∀ k ∈ M, ∃ t ∈ tsort ts, kD (tI t) = k := fun k hk => by
    obtain ⟨t, ht, e⟩ := List.mem_map.mp (hM k hk)
    exact ⟨t, mem_tsort.mpr ht, e⟩
  have go : ∀ (M : List NestedKey) (S : List (List Int)), M.Nodup → (∀ k ∈ M, ∃ t ∈ S, kD (tI t) = k) → M.length ≤ S.length := by
    intro M
    induction M with
    | nil => intro S _ _; exact Nat.zero_le _
    | cons k M ih =>
      intro S nd hM
      obtain ⟨n1, n2⟩ := List.nodup_cons.mp nd
      obtain ⟨t, ht, e⟩ := hM k List.mem_cons_self
      have := ih (S.erase t) n2 fun k' hk' => by
        obtain ⟨t', ht', e'⟩ := hM k' (List.mem_cons_of_mem _ hk')
        refine ⟨t', (List.mem_erase_of_ne fun z => n1 ?_).mpr ht', e'⟩
        rw [← e, ← z, e']
        exact hk'
      rw [List.length_erase_of_mem ht] at this
      have := List.length_pos_of_mem ht
      rw [List.length_cons]
      omega
  exact Nat.le_trans (go M _ nd hM') h
theorem sortT_pw {m : Nat} {ts : List (List Int)} (hm : ∀ t ∈ ts, t.length = m) : (sortT ts).Pairwise fun a b => Dy.lexLt b a = false := by
  have e : sortT ts = ts.mergeSort (PySem.W.dataLe false fun t => py (tI t)) := PySem.W.sort_congr fun x hx y hy => by
    show _ = !PySem.W.dataLt (py (tI y)) (py (tI x))
    rw [dataLt_tI (by rw [hm x hx, hm y hy])]
    rfl
  have z := PySem.W.sort_pairwise (PySem.W.sortLe_total (PyProof.Rows.listOrd PyProof.Rows.itemOrd) false fun t : List Int => PySem.W.keyToks (py (tI t))) ts
  rw [e]
  refine List.Pairwise.imp_of_mem (fun {a b} ha hb q => ?_) z
  have q' : (!PySem.W.dataLt (py (tI b)) (py (tI a))) = true := q
  rw [dataLt_tI (by rw [hm a (List.mem_mergeSort.mp ha), hm b (List.mem_mergeSort.mp hb)])] at q'
  simpa using q'
/-- sorting what has each of ts once -/
theorem sort_once {m : Nat} {ts M : List (List Int)} (hm : ∀ t ∈ ts, t.length = m) (h1 : ∀ t ∈ M, t ∈ ts) (h2 : ∀ t ∈ ts, kD (tI t) ∈ M.map fun t => kD (tI t)) (nd : (M.map fun t => kD (tI t)).Nodup) : M.mergeSort (PySem.W.dataLe false fun t => py (tI t)) = tsort ts := by
  have nM : M.Nodup := List.Pairwise.of_map _ (fun _ _ hne e => hne (congrArg (fun t => kD (tI t)) e)) nd
  have perm := List.mergeSort_perm M (PySem.W.dataLe false fun t => py (tI t))
  have pw : (M.mergeSort (PySem.W.dataLe false fun t => py (tI t))).Pairwise fun a b => Dy.lexLt b a = false := by
    have e : M.mergeSort (PySem.W.dataLe false fun t => py (tI t)) = sortT M := PySem.W.sort_congr fun x hx y hy => by
      show (!PySem.W.dataLt (py (tI y)) (py (tI x))) = _
      rw [dataLt_tI (by rw [hm x (h1 x hx), hm y (h1 y hy)])]
      rfl
    rw [e]
    exact sortT_pw fun t ht => hm t (h1 t ht)
  refine pw_unique (fun _ _ => lex_asym) ?_ (tsort_pw (m := m) hm) fun k => ?_
  · have both := List.pairwise_and_iff.mpr ⟨pw, perm.nodup_iff.mpr nM⟩
    refine List.Pairwise.imp_of_mem (fun {x y} hx hy h => ?_) both
    have lx := hm x (h1 x (perm.mem_iff.mp hx))
    have ly := hm y (h1 y (perm.mem_iff.mp hy))
    exact lex_tot (by rw [lx, ly]) (fun e => h.2 e.symm) h.1
  · rw [perm.mem_iff, mem_tsort]
    refine ⟨fun h => h1 k h, fun h => ?_⟩
    obtain ⟨t, ht, e⟩ := List.mem_map.mp (h2 k h)
    rw [← kD_inj e]
    exact ht
section
variable {X : Cx} {a : Expr} {p p2 q pos : Pos} {δ δ1 : List Sl}
/-- sorted(set(xs)), xs a list of tuples of ints of one length, not more than 306 different ones -/
theorem do_sortSetBT {ts : List (List Int)} {m : Nat} (hm : X.mg "sorted" = none) (hm2 : X.mg "set" = none) (hu : X.A.units + 64 < cLine) (h : DE X a δ (.lst (ts.map tI)) δ1) (few : FewT ts) (h1 : 1 ≤ m) (hl : ∀ t ∈ ts, t.length = m) (ok : ∀ t ∈ ts, okD 2 (tI t) = true) (hc : X.calm = true := by rfl) (hg : Gl X "sorted" := by rfl) (hg2 : Gl X "set" := by rfl)
    (na : starEach [a] X.env = (false, eval a X.env) :: starEach [] X.env := by exact st_any rfl) (na2 : starEach [.Call (.Name "set" p2) [a] [] q] X.env = (false, eval (.Call (.Name "set" p2) [a] [] q) X.env) :: starEach [] X.env := by rfl) (hpl : (backTo q (starEach [] X.env)).any (·.1) = false := by rfl) (hpl2 : (backTo pos (starEach [] X.env)).any (·.1) = false := by rfl) :
    DO X (.Call (.Name "sorted" p) [.Call (.Name "set" p2) [a] [] q] [] pos) δ ((tsort ts).map tI) δ1 :=
  do_sortSetB (enc := tI) (n := 2) hm hm2 hu h (fun t _ => ⟨_, rfl⟩) (fun t _ => ko_tI t) ok (by decide) (few_of few) (fun d hd d' hd' => by
    obtain ⟨x, hx, rfl⟩ := List.mem_map.mp hd
    obtain ⟨y, hy, rfl⟩ := List.mem_map.mp hd'
    exact alike_tI (by rw [hl x hx, hl y hy])) (.inl fun d hd => by
    obtain ⟨x, hx, rfl⟩ := List.mem_map.mp hd
    cases x with
    | nil => have := hl _ hx; simp at this; omega
    | cons i x => exact ⟨.int i, pys (x.map D.int), rfl⟩) (fun M m1 m2 m3 => sort_once hl m1 m2 m3) hc hg hg2 na na2 hpl hpl2
end
end Bs

/-! part Gd -/
/-! times on a grid; joins of two times -/
namespace Gd
open PySem PySem.Spec PyProof.Rows L2 Dy Kk
def gridC : List (List Int) → List (List Int)
  | [] => [[]]
  | ax :: axes => ax.flatMap fun v => (gridC axes).map fun r => v :: r
theorem gridC_cons {ax : List Int} {axes : List (List Int)} {x : List Int} : x ∈ gridC (ax :: axes) ↔ ∃ v ∈ ax, ∃ r ∈ gridC axes, x = v :: r := by
  show x ∈ ax.flatMap _ ↔ _
  rw [List.mem_flatMap]
  constructor
  · rintro ⟨v, hv, h⟩
    obtain ⟨r, hr, rfl⟩ := List.mem_map.mp h
    exact ⟨v, hv, r, hr, rfl⟩
  · rintro ⟨v, hv, r, hr, rfl⟩
    exact ⟨v, hv, List.mem_map_of_mem hr⟩
theorem gridC_len : ∀ {axes : List (List Int)} {x : List Int}, x ∈ gridC axes → x.length = axes.length
  | [], x, h => by
    rw [List.mem_singleton.mp h]
    rfl
  | ax :: axes, x, h => by
    obtain ⟨v, _, r, hr, rfl⟩ := gridC_cons.mp h
    rw [List.length_cons, List.length_cons, gridC_len hr]
theorem flat_len {α β : Type} {f : α → List β} {c : Nat} : ∀ {l : List α}, (∀ a ∈ l, (f a).length ≤ c) → (l.flatMap f).length ≤ l.length * c
  | [], _ => by simp
  | a :: l, h => by
    have ih := flat_len (f := f) (c := c) (l := l) fun b hb => h b (List.mem_cons_of_mem _ hb)
    have := h a List.mem_cons_self
    rw [List.flatMap_cons, List.length_append, List.length_cons, Nat.add_mul]
    omega
theorem gridC_size {c : Nat} : ∀ {axes : List (List Int)}, (∀ ax ∈ axes, ax.length ≤ c) → (gridC axes).length ≤ c ^ axes.length
  | [], _ => Nat.le_refl _
  | ax :: axes, h => by
    have ih := gridC_size fun a ha => h a (List.mem_cons_of_mem _ ha)
    have q := flat_len (f := fun v => (gridC axes).map fun r => v :: r) (c := c ^ axes.length) (l := ax) fun v _ => by rw [List.length_map]; exact ih
    have h1 := h ax List.mem_cons_self
    show (ax.flatMap _).length ≤ _
    rw [List.length_cons, Nat.pow_succ, Nat.mul_comm]
    exact Nat.le_trans q (Nat.mul_le_mul_right _ h1)
theorem nodup_sub {α : Type} [BEq α] [LawfulBEq α] : ∀ {l M : List α}, l.Nodup → (∀ x ∈ l, x ∈ M) → l.length ≤ M.length
  | [], _, _, _ => Nat.zero_le _
  | x :: l, M, hn, hs => by
    obtain ⟨h1, h2⟩ := List.nodup_cons.mp hn
    have hx : x ∈ M := hs x List.mem_cons_self
    have ih := nodup_sub (M := M.erase x) h2 fun y hy => (List.mem_erase_of_ne fun e => h1 (by rw [← e]; exact hy)).2 (hs y (List.mem_cons_of_mem _ hy))
    rw [List.length_erase_of_mem hx] at ih
    have hp : 0 < M.length := List.length_pos_of_mem hx
    rw [List.length_cons]
    omega
theorem tsort_nd {m : Nat} {ts : List (List Int)} (h : ∀ t ∈ ts, t.length = m) : (tsort ts).Nodup :=
  List.Pairwise.imp (R := LexL) (S := fun a b => a ≠ b) (fun {a b} q e => lex_asym (a := a) (b := b) q (by rw [← e] at q ⊢; exact q)) (tsort_pw h)
/-- few different ones: all on one grid -/
theorem few_grid {c : Nat} {axes ts : List (List Int)} (hc : ∀ ax ∈ axes, ax.length ≤ c) (h : ∀ t ∈ ts, t ∈ gridC axes) : (tsort ts).length ≤ c ^ axes.length :=
  Nat.le_trans (nodup_sub (tsort_nd (m := axes.length) fun t ht => gridC_len (h t ht)) fun x hx => h x (mem_tsort.mp hx)) (gridC_size hc)
def jn (t u : List Int) : List Int := List.zipWith max t u
theorem jn_len {m : Nat} {t u : List Int} (h1 : t.length = m) (h2 : u.length = m) : (jn t u).length = m := by unfold jn; rw [List.length_zipWith, h1, h2]; exact Nat.min_self m
theorem jn_grid : ∀ {axes : List (List Int)} {a b : List Int}, a ∈ gridC axes → b ∈ gridC axes → jn a b ∈ gridC axes
  | [], a, b, ha, hb => by
    rw [show a = [] from List.mem_singleton.mp ha]
    exact List.mem_singleton.mpr rfl
  | ax :: axes, a, b, ha, hb => by
    obtain ⟨v, hv, r, hr, rfl⟩ := gridC_cons.mp ha
    obtain ⟨u, hu, q, hq, rfl⟩ := gridC_cons.mp hb
    refine gridC_cons.mpr ⟨max v u, ?_, jn r q, jn_grid hr hq, rfl⟩
    rcases Int.le_total v u with h | h
    · rw [Int.max_eq_right h]; exact hu
    · rw [Int.max_eq_left h]; exact hv
theorem runL_cons {α β : Type} {g : β → S → α × S} {b : β} {l : List β} {s : S} : (runL g (b :: l) s).1 = (g b s).1 :: (runL g l (g b s).2).1 := by
  have go : ∀ (l : List β) (acc : List α) (s : S), (l.foldl (fun r b => (r.1 ++ [(g b r.2).1], (g b r.2).2)) (acc, s)).1 = acc ++ (runL g l s).1 := by
    intro l
    induction l with
    | nil => intro acc s; simp [runL]
    | cons c l ih =>
      intro acc s
      unfold runL
      rw [List.foldl_cons, List.foldl_cons, ih, ih]
      simp
  unfold runL
  rw [List.foldl_cons, go]
  rfl
theorem time_grid : ∀ {axes : List (List Int)} {n : Nat} {s : S}, Hd n s → (∀ ax ∈ axes, Ax ax) → (timeS s axes).1 ∈ gridC axes
  | [], _, _, _, _ => List.mem_singleton.mpr rfl
  | ax :: axes, n, s, h, ha => by
    have A := ha ax List.mem_cons_self
    have al := A.lo
    obtain ⟨h1, h2, h3⟩ := pick_hd h (m := ax.length) (by omega)
    have hi : (pick s ax.length).1.toNat < ax.length := by omega
    have e : ax.getD (pick s ax.length).1.toNat 0 = ax[(pick s ax.length).1.toNat] := by rw [List.getD_eq_getElem?_getD, List.getElem?_eq_getElem hi]; rfl
    unfold timeS
    rw [runL_cons]
    refine gridC_cons.mpr ⟨_, ?_, _, time_grid (s := (at1 ax s).2) h1 fun a q => ha a (List.mem_cons_of_mem _ q), rfl⟩
    show ax.getD _ 0 ∈ ax
    rw [e]
    exact List.getElem_mem _
/-- an axis has at most as many values as were asked for -/
theorem axis_few {n m : Nat} {s : S} (h : Hd n s) (m1 : 1 ≤ m) : (axis1 m s).1.length ≤ m := by
  obtain ⟨h1, h2, h3⟩ := pick_hd h (m := m) (by omega)
  obtain ⟨g1, g2, g3⟩ := pick_hd h1 (m := 2) (by decide)
  unfold axis1
  simp only []
  split
  · rw [List.length_map, List.length_range]
    omega
  · refine Nat.le_trans (usort_len _) ?_
    obtain ⟨r1, r2, r3⟩ := runL_all (g := fun _ => optS) (P := fun _ => True) (q := 2) (l := List.range (1 + (pick s m).1).toNat) (fun b _ n s h => ⟨(opt_hd h).1, trivial⟩) g1
    rw [r3, List.length_range]
    omega
theorem axes_few {n d m : Nat} {s : S} (h : Hd n s) (m1 : 1 ≤ m) (m9 : m ≤ 9) : ∀ ax ∈ (axesS s d m).1, ax.length ≤ m :=
  (runL_all (g := fun _ => axis1 m) (P := fun ax => ax.length ≤ m) (q := 20) (l := List.range d) (fun b _ n s h => ⟨(axis1_hd h (by omega) (by omega)).1, axis_few h m1⟩) h).2.1
section
variable {P : Program} {w : World} {K : PySem.W.Frag} {mg : Str → Option Value} {base : Heap} {f : Addr} {fd : FuncData}
end
end Gd

/-! part Ly49 -/
set_option pp.maxSteps 400
/-! sorted({..}) of ints, few different ones -/
namespace Dy
open PySem PySem.Spec PyProof.Rows L2
/-- n different ones -/
def Cnt (S : Int → Bool) (n : Nat) : Prop := ∃ M : List Int, M.Nodup ∧ (∀ k, S k = true ↔ k ∈ M) ∧ n = M.length
theorem cnt_nil : Cnt (fun _ => false) 0 := ⟨[], List.nodup_nil, fun k => by simp, rfl⟩
theorem Cnt.le {S : Int → Bool} {n : Nat} (h : Cnt S n) {ns : List Int} (hs : ∀ k, S k = true → k ∈ ns) : n ≤ (usort ns).length := by
  obtain ⟨M, nd, hm, rfl⟩ := h
  exact Gd.nodup_sub nd fun x hx => mem_usort.mpr (hs x ((hm x).mpr hx))
theorem Cnt.add {S : Int → Bool} {n : Nat} (h : Cnt S n) (c : Int) : Cnt (fun j => S j || decide (j = c)) (if S c = true then n else n + 1) := by
  obtain ⟨M, nd, hm, rfl⟩ := h
  by_cases e : S c = true
  · rw [if_pos e]
    refine ⟨M, nd, fun k => ?_, rfl⟩
    rw [Bool.or_eq_true, decide_eq_true_eq, hm]
    exact ⟨fun z => z.elim id fun q => by rw [q]; exact (hm c).mp e, .inl⟩
  · rw [if_neg e]
    refine ⟨c :: M, List.nodup_cons.mpr ⟨fun z => e ((hm c).mpr z), nd⟩, fun k => ?_, rfl⟩
    rw [Bool.or_eq_true, decide_eq_true_eq, hm, List.mem_cons]
    exact or_comm
section
variable {X : Cx}
theorem sc_readN {tg it elt : Expr} {ifs : List Expr} {scope : Scope} {vs : List Nat} {δ δ1 δw : List Sl} {items : List D} (b : D → Bool) (g : D → Int) (hi : DI X tg it δ items δ1) (hw : wipeD δ1 vs = δw)
    (hs : ∀ d ∈ items, ∃ ws δ3 δ4, (∀ j ∈ ws, j ∈ vs) ∧ (Bk X scope fun Y => DG Y tg d ws δw δ3) ∧ (Bk X scope fun Y => DTs Y ifs δ3 (b d) δ4) ∧ wipeD δ4 vs = δw ∧ (b d = true → ∃ δ5, (Bk X scope fun Y => DE Y elt δ4 (.int (g d)) δ5) ∧ wipeD δ5 vs = δw))
    (hz : (usort ((items.filter b).map g)).length < 64) {F R H : Hp} {σ : L2.St} {Q : VK} (s : StOk X.K F R H σ δ)
    (k : ∀ p S n R2 H2, Tr F R R2 → StOk X.K F R2 H2 σ δw → F p = none → R2 p = none → H2 p = some (SetO X.w p S n) → (∀ k, S k = true ↔ k ∈ (items.filter b).map g) → n < 64 → (∀ (i : Nat) (es : List D), δw[i]? ≠ some (.own p es)) → Q (.ref p) H2) :
    Dz.tScI X.w (wI X tg it) (bG X scope tg) (bT X scope ifs) (bE X scope elt) vs σ H Q := by
  refine hi F R H σ _ s fun J R1 H1 t1 s1 w D hD => ?_
  have hF : F D = none := s1.fr.free hD
  have hR1 : R1 D = none := s1.rg.free hD
  have noC0 : ∀ (i : Nat) (hf : NestedKey → Int) (ks vs : List Dy.D), δw[i]? ≠ some (.odc hf D ks vs) := by
    rw [← hw]
    exact (s1.wipe vs).noC fun hf M z => by rw [hD] at z; cases z
  refine ⟨fun i m H' => ∃ R' S n, Tr F R1 R' ∧ StOk X.K F R' H' (L2.wipe σ vs) δw ∧ R' D = none ∧ H' D = some (SetO X.w D S n) ∧ (∀ k, S k = true ↔ k ∈ mem0 b g items i) ∧ Cnt S n ∧ (∀ (i : Nat) (es : List Dy.D), δw[i]? ≠ some (.own D es)) ∧ i ≤ items.length ∧ m = items.length - i,
    ⟨_, R1, _, 0, Tr.refl _ _, by rw [← hw]; exact (s1.off hD).wipe vs, hR1, upd_same, fun k => by simp [mem0], cnt_nil, fun i es q => ?_, Nat.zero_le _, rfl⟩, ?_⟩
  · have z := (s1.wipe vs).at_ i _ (by rw [hw]; exact q)
    obtain ⟨_, _, _, ys, hy, _⟩ := z
    rw [hD] at hy
    cases hy
  rintro i m H2 ⟨R2, S, n, t2, s2, hR2, hD2, hS, hn, no, hi2, rfl⟩
  have rg2 : Same R1 H2 := t2.ex.trans s2.rg
  have n64 : n < 64 := Nat.lt_of_le_of_lt (hn.le fun k hk => by
    have z := (hS k).mp hk
    obtain ⟨d, hd, e⟩ := List.mem_map.mp z
    have hd2 := List.mem_filter.mp hd
    exact List.mem_map.mpr ⟨d, List.mem_filter.mpr ⟨List.mem_of_mem_take hd2.1, hd2.2⟩, e⟩) hz
  by_cases hlt : i < items.length
  · refine .inr ⟨w.go i H2 rg2 hlt, fun H' => ∃ R' S n, Tr F R1 R' ∧ StOk X.K F R' H' (L2.wipe σ vs) δw ∧ R' D = none ∧ H' D = some (SetO X.w D S n) ∧ (∀ k, S k = true ↔ k ∈ mem0 b g items (i + 1)) ∧ Cnt S n,
      fun H' ⟨R', S', n', a1, a2, a3, a4, a5, a6⟩ => ⟨items.length - (i + 1), by omega, R', S', n', a1, a2, a3, a4, a5, a6, no, hlt, rfl⟩, fun x H3 y => ?_⟩
    obtain ⟨ws, δ3, δ4, hws, gg, ts, h4, fin⟩ := hs _ (List.getElem_mem hlt)
    have hm := mem0_succ (b := b) (g := g) (List.getElem?_eq_getElem hlt)
    have go : ∀ {R3 : Hp}, Tr F R1 R3 → StOk X.K F R3 H3 (L2.wipe σ vs) δw → Is X.K R3 x items[i] → R3 D = none → H3 D = some (SetO X.w D S n) →
        bG X scope tg x (L2.wipe σ vs) H3 fun σ2 H4 => L2.wipe σ2 vs = L2.wipe σ vs ∧ bT X scope ifs σ2 H4 fun b' H5 => if b' = true then bE X scope elt σ2 H5 fun y H6 => ∃ (c : Int) (S : Int → Bool) (n : Nat), y = .int c ∧ H6 D = some (SetO X.w D S n) ∧ n + 1 < scanBound ∧
          (∃ R' S' n', Tr F R1 R' ∧ StOk X.K F R' (upd H6 D (Dz.more1 X.w D S n c)) (L2.wipe σ vs) δw ∧ R' D = none ∧ (upd H6 D (Dz.more1 X.w D S n c)) D = some (SetO X.w D S' n') ∧ (∀ k, S' k = true ↔ k ∈ mem0 b g items (i + 1)) ∧ Cnt S' n')
          else ∃ R' S' n', Tr F R1 R' ∧ StOk X.K F R' H5 (L2.wipe σ vs) δw ∧ R' D = none ∧ H5 D = some (SetO X.w D S' n') ∧ (∀ k, S' k = true ↔ k ∈ mem0 b g items (i + 1)) ∧ Cnt S' n' := by
      intro R3 t3 s3 ix hR3 hD3 s' H' C cl fp
      obtain ⟨u3, fu⟩ := s3.up
      have hFv : frm H3 δw D = some (SetO X.w D S n) := by rw [frm_not no noC0, hD3]
      have hFu : frm H3 δw D ≠ none := by rw [hFv]; exact fun z => by cases z
      refine gg s' H' C cl fp (frm H3 δw) R3 H3 _ x _ u3 ix fun σ2 l2 g2 u4 => ?_
      have we : L2.wipe σ2 vs = L2.wipe σ vs := wipe_same l2 g2 hws
      refine ⟨we, fun s' H' C cl fp => ts s' H' C cl fp (frm H3 δw) R3 H3 σ2 _ u4 fun R5 H5 t5 u5 => ?_⟩
      cases hb : b items[i] with
      | false =>
        rw [if_neg (by decide)]
        have u6 := u5.wipe vs
        rw [we, h4] at u6
        refine ⟨R5, S, n, t3.trans (t5.low fu), u6.low fu, t5.nw D hFu hR3, u5.fr D _ hFv, fun k => ?_, hn⟩
        rw [hm, if_neg (by rw [hb]; decide), List.append_nil]
        exact hS k
      | true =>
        rw [if_pos rfl]
        obtain ⟨δ5, he, h5⟩ := fin hb
        intro s' H' C cl fp
        refine he s' H' C cl fp (frm H3 δw) R5 H5 σ2 _ u5 fun yv R6 H6 t6 u6 iy => ?_
        cases iy
        have u7 := u6.wipe vs
        rw [we, h5] at u7
        have t36 := t5.trans t6
        refine ⟨g items[i], S, n, rfl, u6.fr D _ hFv, by show n + 1 < 4096; omega, R6, _, _, t3.trans (t36.low fu), (u7.low fu).write hF (t36.nw D hFu hR3) no noC0, t36.nw D hFu hR3, upd_same, fun k => ?_, hn.add _⟩
        rw [hm, if_pos hb, List.mem_append, List.mem_singleton, ← hS k, Bool.or_eq_true, decide_eq_true_eq]
    rcases w.yld i _ H2 x H3 R2 t2.ex s2.rg (List.getElem?_eq_getElem hlt) y with ⟨rfl, ix⟩ | ⟨T, o, hT, rfl, ix⟩
    · exact go t2 s2 ix hR2 hD2
    · obtain ⟨s3, t3⟩ := s2.new (o := o) hT
      have hn : D ≠ T := ne_of_none hD2 hT
      exact go (t2.trans t3) s3 ix (by rw [upd_ne hn]; exact hR2) (by rw [upd_ne hn]; exact hD2)
  · have e : i = items.length := by omega
    subst e
    have ea : mem0 b g items items.length = (items.filter b).map g := by unfold mem0; rw [List.take_length]
    rw [ea] at hS
    exact .inl ⟨w.stop H2 rg2, k D S n R2 H2 (t1.trans t2) s2.unwipe hF hR2 hD2 hS n64 no⟩
/-- sorted({elt for tg in it if ..}), ints, fewer than 64 different ones -/
theorem do_sortScN {tg it elt : Expr} {ifs : List Expr} {scope : Scope} {own : List (Str × Nat)} {p pos cpos : Pos} {δ δ1 δw : List Sl} {items : List D} (b : D → Bool) (g : D → Int) (hm : X.mg "sorted" = none) (ok : BlkOk X.N X.env.scope scope own) (hi : DI X tg it δ items δ1) (hw : wipeD δ1 (own.map (·.2)) = δw)
    (hs : ∀ d ∈ items, ∃ ws δ3 δ4, (∀ j ∈ ws, j ∈ own.map (·.2)) ∧ (Bk X scope fun Y => DG Y tg d ws δw δ3) ∧ (Bk X scope fun Y => DTs Y ifs δ3 (b d) δ4) ∧ wipeD δ4 (own.map (·.2)) = δw ∧ (b d = true → ∃ δ5, (Bk X scope fun Y => DE Y elt δ4 (.int (g d)) δ5) ∧ wipeD δ5 (own.map (·.2)) = δw))
    (hz : (usort ((items.filter b).map g)).length < 64) (hc : X.calm = true := by rfl) (hN : X.N.Nodup := by first | assumption | decide) (hf : ∀ x, foldedSetIterable it X.env x = pure x := by intro _; rfl) (hg : Gl X "sorted" := by rfl)
    (na : starEach [.SetComp elt [⟨tg, it, ifs, 0⟩] scope cpos] X.env = (false, eval (.SetComp elt [⟨tg, it, ifs, 0⟩] scope cpos) X.env) :: starEach [] X.env := by rfl) (hpl : (backTo pos (starEach [] X.env)).any (·.1) = false := by rfl) :
    DO X (.Call (.Name "sorted" p) [.SetComp elt [⟨tg, it, ifs, 0⟩] scope cpos] [] pos) δ ((usort ((items.filter b).map g)).map D.int) δw := fun F R H σ Q s k => by
  refine (pe_callB (cr_sortedSet hc) hg hm PyProof.Rows.boot_sorted (pa_cons (Dz.pe_scI hc hN piW ok bG_ok bT_ok bE_ok hf) pa_nil na) (by decide) (by decide) na hpl).w ?_
  show Dz.tScI X.w (wI X tg it) (bG X scope tg) (bT X scope ifs) (bE X scope elt) (own.map (·.2)) σ H (fun x H1 => rSortedSet X.w [x] H1 Q)
  refine sc_readN b g hi hw hs hz s fun p S n R2 H2 t2 s2 hF hR hp hS hn no => ⟨p, S, n, rfl, hp, hn, fun ns r pw mem len hr => ?_⟩
  have e : ns = usort ((items.filter b).map g) := asc_unique pw (usort_asc _) fun k => by rw [mem k, hS k, mem_usort]
  rw [e]
  have s3 : StOk X.K F R2 (upd H2 r (.lst ((usort ((items.filter b).map g)).map V.int))) σ δw := s2.off hr
  exact k r _ R2 _ t2 s3 (s2.fr.free hr) (s2.rg.free hr) upd_same (isA_ints _) fun i es z => by
    obtain ⟨_, _, _, ys, hy, _⟩ := s2.at_ i _ z
    rw [hr] at hy
    cases hy
end
end Dy

/-! part Ly50 -/
/-! own.pop(i) -/
namespace Dy
open PySem PySem.Spec PyProof.Rows L2
theorem IsA.erase {K : PySem.W.Frag} {R : Hp} : ∀ {vs : List V} {ds : List D} (i : Nat), IsA K R vs ds → IsA K R (vs.eraseIdx i) (ds.eraseIdx i)
  | _, _, _, .nil => .nil
  | _, _, 0, .cons _ t => t
  | _, _, i + 1, .cons q t => .cons q (IsA.erase i t)
theorem ixN_of {n : Nat} {i : Int} (h0 : 0 ≤ i) (h1 : i < n) : ixN n i = some i.toNat := by
  unfold ixN
  first | (rw [if_pos h0, if_pos (by omega)]) | (rw [if_pos ⟨h0, h1⟩]) | (split <;> simp_all <;> omega)
variable {X : Cx} {δ δ1 δ2 : List Sl} {e : Expr} {y : Str} {ds : List D} {d : D} {i : Int} {j : Nat}
theorem de_popO {r : Addr} {yp ap tp : Pos} {gs ds2 : List D} (m : Nat) (hi : δ[m]? = some (.own r gs)) (he : DE X e δ (.int i) δ1) (hi1 : δ1[m]? = some (.own r ds)) (h0 : 0 ≤ i) (h1 : ds[i.toNat]? = some d) (hz : ds.length < 1000000) (e2 : ds.eraseIdx i.toNat = ds2) (hN : X.N[m]? = some y := by rfl)
    (hv : Vis X.env.scope y := by first | exact Or.inl rfl | exact Or.inr (Or.inl rfl) | exact Or.inr (Or.inr rfl)) (hyd : (y == ("__debug__" : Str)) = false := by decide) (hyc : (y == ("__classdict__" : Str)) = false := by decide)
    (p0 : ∀ {ta : TE} {t : TA}, PE X (.Name y yp) ta → PA X [e] t → PE X (.Call (.Attribute (.Name y yp) "pop" ap) [e] [] tp) (tBM X.K "list" rPopAt ta t) := by exact fun h1 h2 => pe_bm PySem.F.plainAttrs_list PySem.F.slot_list_pop PySem.F.type_list_pop mt_popAt h1 h2) (hst : starEach [e] X.env = (false, eval e X.env) :: starEach [] X.env := by exact st_any rfl) :
    DE X (.Call (.Attribute (.Name y yp) "pop" ap) [e] [] tp) δ d (δ1.set m (.own r ds2)) := fun F R H σ Q s k => by
  subst e2
  exact (p0 (pe_var hN hv hyd hyc) paW).w ⟨.ref r, (s.at_ m _ hi).1, by
    obtain ⟨z1, z2, z3, xs, z4, ia⟩ := s.at_ m _ hi
    exact .inl ⟨rfl, xs, SqL.of z4⟩, (da_one he hst) F R H σ _ s fun vs R1 H1 t1 s1 iv => by
    cases iv with
    | cons i1 i2 =>
      cases i2
      cases i1
      obtain ⟨z1, z2, z3, xs, z4, ia⟩ := s1.at_ m _ hi1
      have hlt := (List.getElem?_eq_some_iff.mp h1).1
      have hb : atI ds i = some d := by
        have e : i = ((i.toNat : Nat) : Int) := by omega
        rw [e]
        exact atI_nat h1
      obtain ⟨v, hv, iv⟩ := ia.atI hb
      have q := ixN_seq (ixN_of (n := xs.length) h0 (by rw [ia.len]; omega))
      have hv2 : xs[i.toNat]? = some v := by
        have e : i = ((i.toNat : Nat) : Int) := by omega
        obtain ⟨j, a, b, c, _⟩ := atI_get hv
        rw [q.1] at a
        cases a
        exact b
      exact ⟨r, xs, i, i.toNat, v, rfl, rfl, z4, by omega, by omega, q.1, hv2, k v R1 _ t1 (s1.updO hi1 (IsA.erase _ ia)) iv⟩⟩
end Dy

/-! part Ly75 -/
set_option pp.maxSteps 400
/-! own != []; own.pop() -/
namespace Dy
open PySem PySem.Spec PyProof.Rows L2
theorem IsA.dropLast {K : PySem.W.Frag} {R : Hp} : ∀ {vs : List V} {ds : List D}, IsA K R vs ds → IsA K R vs.dropLast ds.dropLast
  | _, _, .nil => .nil
  | _, _, .cons q .nil => .nil
  | _, _, .cons q (.cons q2 t) => .cons q (IsA.dropLast (.cons q2 t))
theorem eqv_nilAny (ds : List D) : PyData.eqv (py (.lst ds)) (py (.lst [])) = ds.isEmpty := by
  cases ds <;> rfl
theorem atI_getLast {ds : List D} {d : D} (h : ds.getLast? = some d) : L2.atI ds (-1) = some d := by
  have hne : ds ≠ [] := fun z => by rw [z] at h; cases h
  rw [List.getLast?_eq_some_getLast hne] at h
  have e := Option.some.inj h
  have e2 : ds = ds.dropLast ++ [d] := by
    rw [← e]
    exact (List.dropLast_concat_getLast hne).symm
  rw [e2]
  exact atI_last _ _
section
variable {X : Cx} {δ : List Sl} {r : Addr} {ds : List D} {d : D} {x y : Str} {p lp pos yp ap tp : Pos} {n k : Nat}
theorem dt_ownNe (i : Nat) (g : Gx X k) (hi : δ[i]? = some (.own r ds)) (o : okD n (.lst ds) = true) (o2 : okD n (.lst []) = true := by rfl) (hn6 : n ≤ 60 := by decide) (hN : X.N[i]? = some x := by rfl)
    (hv : Vis X.env.scope x := by first | exact Or.inl rfl | exact Or.inr (Or.inl rfl) | exact Or.inr (Or.inr rfl)) (hxd : (x == ("__debug__" : Str)) = false := by decide) (hxc : (x == ("__classdict__" : Str)) = false := by decide) :
    DT X (.Compare (.Name x p) [.NotEq] [.List [] lp] pos) δ (!ds.isEmpty) δ := fun F R H σ Q s kq => by
  obtain ⟨z1, z2, z3, xs, z4, ia⟩ := s.at_ i _ hi
  refine (pt_cmpR (op_neD g.rm.units) (pe_var hN hv hxd hxc) (pe_lst pa_nil) (nomark _)).w ⟨.ref r, z1, by exact Nat.zero_le _, fun q hq => ?_⟩
  have hrq : r ≠ q := fun e => by rw [← e, z4] at hq; cases hq
  have hRq : R q = none := s.rg.free hq
  have m1 : Same R (upd (upd R r (.lst xs)) q (.lst [])) := fun b u e => by
    rw [upd_ne (ne_of_none e hRq), upd_ne (ne_of_none e z3)]
    exact e
  have m2 : Same (upd (upd R r (.lst xs)) q (.lst [])) (upd H q (.lst [])) := fun b u e => by
    by_cases hb : b = q
    · subst hb
      rw [upd_same] at e ⊢
      exact e
    · rw [upd_ne hb] at e ⊢
      by_cases hb2 : b = r
      · subst hb2
        rw [upd_same] at e
        rw [← e]
        exact z4
      · rw [upd_ne hb2] at e
        exact s.rg b u e
  have i1 : Is X.K (upd (upd R r (.lst xs)) q (.lst [])) (.ref r) (.lst ds) := .lst (by rw [upd_ne hrq, upd_same]) (ia.mono m1)
  have i2 : Is X.K (upd (upd R r (.lst xs)) q (.lst [])) (.ref q) (.lst []) := .lst upd_same .nil
  exact ⟨_, _, ok_dp m2 n (.lst ds) _ o i1, ok_dp m2 n (.lst []) _ o2 i2, ok_shaped o hn6, ok_shaped o2 hn6, _, rfl, by
    rw [eqv_nilAny]
    exact kq R _ (Tr.refl _ _) (s.off hq)⟩
theorem de_pop0 (m : Nat) (hi : δ[m]? = some (.own r ds)) (hl : ds.getLast? = some d) (hN : X.N[m]? = some y := by rfl)
    (hv : Vis X.env.scope y := by first | exact Or.inl rfl | exact Or.inr (Or.inl rfl) | exact Or.inr (Or.inr rfl)) (hyd : (y == ("__debug__" : Str)) = false := by decide) (hyc : (y == ("__classdict__" : Str)) = false := by decide)
    (p0 : ∀ {ta : TE}, PE X (.Name y yp) ta → PE X (.Call (.Attribute (.Name y yp) "pop" ap) [] [] tp) (tBM0 X.K "list" rPop ta) := by exact fun h => pe_bm0 PySem.F.plainAttrs_list PySem.F.slot_list_pop PySem.F.type_list_pop mt_pop h) :
    DE X (.Call (.Attribute (.Name y yp) "pop" ap) [] [] tp) δ d (δ.set m (.own r ds.dropLast)) := fun F R H σ Q s k => by
  obtain ⟨z1, z2, z3, xs, z4, ia⟩ := s.at_ m _ hi
  have hne : ds ≠ [] := fun z => by rw [z] at hl; cases hl
  have hlen : 0 < ds.length := List.length_pos_iff.mpr hne
  have hg : ds[ds.length - 1]? = some d := by rw [← List.getLast?_eq_getElem?]; exact hl
  obtain ⟨v, hv2, iv⟩ := ia.atI (atI_nat hg)
  have q := ixN_seq (ixN_of (n := xs.length) (i := ((ds.length - 1 : Nat) : Int)) (by omega) (by rw [ia.len]; omega))
  have hx : xs[xs.length - 1]? = some v := by
    obtain ⟨j, a, b, c, _⟩ := atI_get hv2
    rw [q.1] at a
    cases a
    rw [ia.len]
    exact b
  exact (p0 (pe_var hN hv hyd hyc)).w ⟨.ref r, z1, .inl ⟨rfl, xs, SqL.of z4⟩, ⟨r, xs, v, rfl, rfl, z4, hx, k v R _ (Tr.refl _ _) (s.updO hi ia.dropLast) iv⟩⟩
end
end Dy

/-! part Hx5 -/
set_option pp.maxSteps 400
namespace Gr
open PySem PySem.Spec PyProof.Rows L2 Dy Kk
/-! all cycles -/
theorem dt_notInL {X : Cx} {a b : Expr} {δ δ1 δ2 : List Sl} {m : Nat} {ns : List Nat} {pos : Pos} (ha : DE X a δ (nD m) δ1) (hb : DE X b δ1 (nsD ns) δ2) (hm : behindInMarks .NotIn b = false := by rfl) : DT X (.Compare a [.NotIn] [b] pos) δ (!decide (m ∈ ns)) δ2 := fun F R H σ Q s k =>
  (pt_cmpR op_notIn_seq peW peW hm).w (ha F R H σ _ s fun v R1 H1 t1 s1 i1 => hb F R1 H1 σ _ s1 fun z R2 H2 t2 s2 i2 => by
    cases i1
    cases i2 with
    | @lst q xs _ hq ia =>
      have e1 : xs = ns.map fun n : Nat => V.int n := by
        have z : IsA X.K R2 xs ((ns.map fun n : Nat => (n : Int)).map D.int) := by
          rw [List.map_map]
          exact ia
        rw [z.ints, List.map_map]
        rfl
      refine ⟨q, xs, rfl, .inl (SqL.of (s2.rg _ _ hq)), rfl, ?_, ?_⟩
      · rw [e1, List.all_map]
        simp [flatV]
      · have e2 : inV (V.int m) xs = decide (m ∈ ns) := by
          rw [e1]
          unfold inV
          rw [List.any_map, Bool.eq_iff_iff, List.any_eq_true, decide_eq_true_eq]
          constructor
          · rintro ⟨n, hn, e⟩
            have e' : ((n : Int) == (m : Int)) = true := e
            rw [beq_iff_eq] at e'
            rw [show m = n by omega]
            exact hn
          · intro h
            exact ⟨m, h, show ((m : Int) == (m : Int)) = true by rw [beq_iff_eq]⟩
        rw [if_pos rfl, e2]
        exact ⟨_, rfl, k R2 H2 (t1.trans t2) s2⟩)
def atB (es : List Ed) (v : Nat) : D → Bool
  | .int i => decide ((ed es i.toNat).b = v)
  | _ => false
theorem out_map (es : List Ed) (v : Nat) (g : Nat → D) (h : D → D) (e : ∀ i : Nat, h (nD i) = g i) : (((List.range ((es.map eD).length : Int).toNat).map fun i : Nat => D.int (i : Int)).filter (atB es v)).map h = (outE es v).map g := by
  rw [List.length_map, Int.toNat_natCast, List.filter_map, List.map_map]
  have e1 : (h ∘ fun i : Nat => D.int (i : Int)) = g := by
    funext i
    exact e i
  rw [e1]
  rfl
theorem cycs_succ (es : List Ed) (n : Nat) : cycs es (n + 1) = cycs es n ++ cycsF es n := by
  unfold cycs
  rw [List.range_succ, List.flatMap_append]
  simp
theorem cycs_len {es : List Ed} : ∀ n, (cycs es n).length ≤ n * 2 ^ es.length
  | 0 => Nat.zero_le _
  | n + 1 => by
    have ih := cycs_len (es := es) n
    have h := cycsF_len (es := es) (first := n)
    rw [cycs_succ, List.length_append, Nat.add_mul, Nat.one_mul]
    omega
theorem pow16 {m : Nat} (h : m ≤ 16) : 2 ^ m ≤ 65536 := Nat.le_trans (Nat.pow_le_pow_right (by decide) h) (by decide)
abbrev nCy : List Str := ["_law_edges", "_law_places", "_law_found", "_law_first", "_law_ways", "_law_way", "_law_last", "_law_index"]
section
variable {P : Program} {w : World} {K : PySem.W.Frag} {mg : Str → Option Value} {base : Heap} {f : Addr} {fd : FuncData}
theorem h_sc17 : FnScope nCy ["_law_edges", "_law_places"] (defScope sLCycs) := ⟨rfl, rfl, rfl, by decide +kernel, rfl, by decide +kernel, by decide +kernel⟩
abbrev cLCycs : List D → D → Prop := fun ds d => ∃ (es : List Ed) (n : Nat), ds = [esD es, nD n] ∧ EsOk es ∧ es.length ≤ 16 ∧ n ≤ 14 ∧ d = .lst ((cycs es n).map nsD)
theorem law_cycles (F : Df K mg "_law_cycles" sLCycs f fd) (T : Txt mg) : FnG P w K mg base CX0 2 f (spP K cLCycs) := by
  refine fn_pure F.fn h_sc17 (F.fn.binds fun _ _ _ _ _ _ us hl => match us, hl with | [_, _], _ => rfl) (by rintro ds d ⟨_, _, rfl, _⟩; rfl) (by decide) fun cdv A outer s H E ds d g ⟨es, n, e, he, hm, hn, e'⟩ => ?_
  subst e e'
  have nd := h_sc17.nd
  have hp16 := pow16 hm
  have hrl : ((List.range ((es.map eD).length : Int).toNat).map fun i : Nat => D.int (i : Int)).length ≤ 1000000 := by
    rw [List.length_map, List.length_range, List.length_map]
    omega
  refine dss_cons (ds_setO 2 (do_lst da_nil (by exact Nat.zero_le _)) fun q => ?_)
  refine dss_cons (ds_for (di_range1 rfl T.range (da_one (de_v 1)) (by omega)) (fun i δ => ∃ x3 x4 x5 x6, δ = [.dat (esD es), .dat (nD n), .own q ((cycs es i).map nsD), x3, x4, x5, x6, .no]) ⟨_, _, _, _, rfl⟩ ?_ ?_)
  · rintro first d δ2 hi ⟨x3, x4, x5, x6, rfl⟩
    have hlt : first < n := by
      have z := (List.getElem?_eq_some_iff.mp hi).1
      rw [List.length_map, List.length_range] at z
      omega
    have hdd : d = nD first := by
      rw [List.getElem?_map, List.getElem?_range (by omega)] at hi
      exact (Option.some.inj hi).symm
    subst hdd
    have hcl : (cycs es first).length + 65536 ≤ 14 * 65536 := by
      have z := cycs_len (es := es) first
      have z2 : first * 2 ^ es.length ≤ 13 * 65536 := Nat.mul_le_mul (by omega) hp16
      omega
    refine ⟨[3], _, dg_name 3, ?_⟩
    refine dss_cons (ds_lcIf (i := 4) (own := [("_law_index", 7)]) (atB es first) (fun d => .lst [d]) rfl (blkOk_by (N := nCy) (sc := defScope sLCycs) (own := [("_law_index", 7)]) (by kernel_rfl)) (di_range1 rfl T.range (da_one (de_lenL T.len (de_v 0))) (by rw [List.length_map]; omega)) rfl ?_ hrl fun p => ?_)
    · intro d' hd'
      obtain ⟨j, hj, rfl⟩ := List.mem_map.mp hd'
      rw [List.mem_range, List.length_map, Int.toNat_natCast] at hj
      exact ⟨[7], _, _, by simp, fun _ _ _ _ _ => dg_name 7, fun _ _ _ _ _ => dts_one (dt_is (dt_eqi (de_ixT (ds := [nD (ed es j).b, nD (ed es j).e, .str (ed es j).w]) (d := nD (ed es j).b) (de_ixL (de_v 0) (de_v 7) (L2.atI_nat (ed_get hj))) de_int rfl) (de_v 3)) (by
        show decide _ = decide ((ed es j).b = first)
        rw [decide_eq_decide]
        omega)), rfl, fun _ => ⟨_, fun _ _ _ _ _ => DO.de (do_lst (da_one (de_v 7)) (by exact (by decide : 1 ≤ sizeLine))), rfl⟩⟩
    rw [out_map es first (fun i => nsD [i]) (fun d => .lst [d]) fun i => rfl]
    have es0 : (outE es first).map (fun i => nsD [i]) = (dit es first 0).ws.map nsD := by
      show _ = ((outE es first).map fun i => [i]).map nsD
      rw [List.map_map]
      rfl
    rw [es0]
    show DSs (BX P w K mg base nCy "_law_cycles" sLCycs f cdv A outer s H E) _ _ _
    refine dss_cons ?_
    refine ds_while (fun m δ => ∃ k x5 x6, m = wtL es (dit es first k).ws ∧ δ = [.dat (esD es), .dat (nD n), .own q ((cycs es first ++ (dit es first k).fd).map nsD), .dat (nD first), .own p ((dit es first k).ws.map nsD), x5, x6, .no]) (wtL es (dit es first 0).ws) ⟨0, x5, x6, rfl, ?_⟩ ?_
    · show _ = [_, _, Sl.own q ((cycs es first ++ []).map nsD), _, _, _, _, _]
      rw [List.append_nil]
      rfl
    · rintro m δ3 ⟨k, y5, y6, rfl, rfl⟩
      have ok := dit_ok (es := es) (first := first) k
      have hst : dit es first (k + 1) = dstep es first (dit es first k) := rfl
      obtain ⟨x, hxk⟩ : ∃ x, dit es first k = x := ⟨_, rfl⟩
      rw [hxk] at ok hst ⊢
      have hwl := wt_len (es := es) (ws := x.ws)
      have hwt := ok.wt
      have hlen : ∀ w ∈ x.ws, w.length ≤ 1000 := fun w hw => by
        have wo := ok.ws w hw
        have z := nodup_lt (n := 1000) wo.nd fun v hv => by
          obtain ⟨i, hi, rfl⟩ := List.mem_map.mp hv
          exact (he.at_ (wo.r i hi)).1
        rw [List.length_map] at z
        exact z
      have hok2 : okD 2 (.lst (x.ws.map nsD)) = true := by
        show (x.ws.map nsD).all (okD 1) = true
        rw [List.all_map, List.all_eq_true]
        intro w hw
        exact okD_ns fun i hi => by
          have := (ok.ws w hw).r i hi
          omega
      have hemp : (!(x.ws.map nsD).isEmpty) = !x.ws.isEmpty := by
        cases x.ws <;> rfl
      refine ⟨!x.ws.isEmpty, _, dt_is (dt_ownNe 4 g rfl hok2) hemp, fun h => ?_, fun h => ?_⟩
      · have hne : x.ws ≠ [] := fun z => by rw [z] at h; cases h
        obtain ⟨wy, hgl⟩ : ∃ wy, x.ws.getLast? = some wy := ⟨_, List.getLast?_eq_some_getLast hne⟩
        have hwy : wy ∈ x.ws := List.mem_of_getLast? hgl
        have wo := ok.ws wy hwy
        have hgl2 : (x.ws.map nsD).getLast? = some (nsD wy) := by
          rw [List.getLast?_map, hgl]
          rfl
        have hdl : (x.ws.map nsD).dropLast = x.ws.dropLast.map nsD := by rw [List.map_dropLast]
        have hws := dstep_wt (es := es) (first := first) (x := x) hgl
        have hwd : x.ws.dropLast.length ≤ x.ws.length := by rw [List.length_dropLast]; omega
        refine dss_cons (ds_set 5 (d := nsD wy) (de_pop0 4 rfl hgl2) ?_)
        rw [hdl]
        obtain ⟨i, l, ew⟩ : ∃ i l, wy = l ++ [i] := ⟨_, _, (List.dropLast_concat_getLast wo.ne).symm⟩
        have hil : i < es.length := wo.r i (by rw [ew]; exact List.mem_append_right _ (List.mem_singleton.mpr rfl))
        have een : endW es wy = (ed es i).e := by rw [ew, endW_snoc]
        have hat : L2.atI (wy.map nD) (-1) = some (nD i) := by
          rw [ew, List.map_append]
          exact atI_last _ _
        refine dss_cons (ds_set 6 (d := nD (endW es wy)) (de_is (de_ixT (ds := [nD (ed es i).b, nD (ed es i).e, .str (ed es i).w]) (d := nD (ed es i).e) (de_ixL (de_v 0) (de_ixL (de_v 5) (de_neg de_int) hat) (L2.atI_nat (ed_get hil))) de_int rfl) (by rw [een])) ?_)
        have hcf : ((cycs es first ++ x.fd).map nsD).length < 1000000 := by
          rw [List.length_map, List.length_append]
          omega
        have hwl3 : wy.length ≤ 1000 := hlen wy hwy
        by_cases c1 : endW es wy = first
        · have est : dstep es first x = ⟨x.ws.dropLast, x.fd ++ [wy]⟩ := by
            unfold dstep
            rw [hgl]
            dsimp only
            rw [if_pos c1]
          refine dss_cons (ds_if (m := true) (dt_is (dt_eqi (de_v 6) (de_v 3)) (decide_eq_true (by omega))) (fun _ => dss_cons (ds_app (p0 := fun h1 h2 => pe_bm PySem.F.plainAttrs_list PySem.F.slot_list_append PySem.F.type_list_append mt_append h1 h2) (d := nsD wy) (δ1 := [.dat (esD es), .dat (nD n), .own q ((cycs es first ++ x.fd).map nsD), .dat (nD first), .own p (x.ws.dropLast.map nsD), .dat (nsD wy), .dat (nD (endW es wy)), .no]) 2 rfl (de_v 5) rfl hcf (dss_nil (dss_nil ⟨wtL es (dit es first (k + 1)).ws, ?_, k + 1, .dat (nsD wy), .dat (nD (endW es wy)), rfl, ?_⟩)))) (fun h => by cases h))
          · rw [hst]
            exact hws
          · rw [hst, est]
            have em : (cycs es first ++ (x.fd ++ [wy])).map nsD = (cycs es first ++ x.fd).map nsD ++ [nsD wy] := by
              rw [← List.append_assoc, List.map_append]
              rfl
            show _ = [_, _, Sl.own q ((cycs es first ++ (x.fd ++ [wy])).map nsD), _, _, _, _, _]
            rw [em]
            rfl
        · by_cases c2 : first < endW es wy ∧ endW es wy ∉ bgL es wy
          · have est : dstep es first x = ⟨x.ws.dropLast ++ (outE es (endW es wy)).map fun i => wy ++ [i], x.fd⟩ := by
              unfold dstep
              rw [hgl]
              dsimp only
              rw [if_neg c1, if_pos c2]
            refine dss_cons (ds_if (m := false) (dt_is (dt_eqi (de_v 6) (de_v 3)) (decide_eq_false (by omega))) (fun h => by cases h) (fun _ => dss_cons (ds_if (m := true) (dt_is (dt_and (m := true) (n := !decide (endW es wy ∈ bgL es wy)) (dt_is (dt_gt (de_v 6) (de_v 3)) (decide_eq_true (by omega))) fun _ => dt_notInL (de_v 6) (de_is (DO.de (do_lcMap (own := [("_law_index", 7)]) (bgD es) (blkOk_by (N := nCy) (sc := defScope sLCycs) (own := [("_law_index", 7)]) (by kernel_rfl)) (di_list (de_v 5)) rfl ?_ ?_)) (congrArg D.lst (bgs_map es wy)))) ?_)
              (fun _ => dss_cons (ds_ext (p0 := fun h1 h2 => pe_bm PySem.F.plainAttrs_list PySem.F.slot_list_extend PySem.F.type_list_extend mt_extend h1 h2) (es := (outE es (endW es wy)).map fun i => nsD (wy ++ [i])) (δ1 := [.dat (esD es), .dat (nD n), .own q ((cycs es first ++ x.fd).map nsD), .dat (nD first), .own p (x.ws.dropLast.map nsD), .dat (nsD wy), .dat (nD (endW es wy)), .no]) 4 rfl (de_is (DO.de (do_lcIf (own := [("_law_index", 7)]) (atB es (endW es wy)) (fun d => .lst (wy.map nD ++ [d])) (blkOk_by (N := nCy) (sc := defScope sLCycs) (own := [("_law_index", 7)]) (by kernel_rfl)) (di_range1 rfl T.range (da_one (de_lenL T.len (de_v 0))) (by rw [List.length_map]; omega)) rfl ?_ hrl)) (congrArg D.lst (out_map es (endW es wy) (fun i => nsD (wy ++ [i])) _ fun i => ?_))) rfl ?_ (dss_nil (dss_nil (dss_nil ⟨wtL es (dit es first (k + 1)).ws, ?_, k + 1, .dat (nsD wy), .dat (nD (endW es wy)), rfl, ?_⟩))))) (fun h => by cases h))))
            · intro d' hd'
              obtain ⟨j, hj, rfl⟩ := List.mem_map.mp hd'
              exact ⟨[7], _, _, by simp, fun _ _ _ _ _ => dg_name 7, fun _ _ _ _ _ => de_ixT (ds := [nD (ed es j).b, nD (ed es j).e, .str (ed es j).w]) (de_ixL (de_v 0) (de_v 7) (L2.atI_nat (ed_get (wo.r j hj)))) de_int rfl, rfl⟩
            · rw [List.length_map]; omega
            · rw [decide_eq_false c2.2]
              rfl
            · intro d' hd'
              obtain ⟨j, hj, rfl⟩ := List.mem_map.mp hd'
              rw [List.mem_range, List.length_map, Int.toNat_natCast] at hj
              exact ⟨[7], _, _, by simp, fun _ _ _ _ _ => dg_name 7, fun _ _ _ _ _ => dts_one (dt_is (dt_eqi (de_ixT (ds := [nD (ed es j).b, nD (ed es j).e, .str (ed es j).w]) (d := nD (ed es j).b) (de_ixL (de_v 0) (de_v 7) (L2.atI_nat (ed_get hj))) de_int rfl) (de_v 6)) (by
                show decide _ = decide ((ed es j).b = endW es wy)
                rw [decide_eq_decide]
                omega)), rfl, fun _ => ⟨_, fun _ _ _ _ _ => DO.de (do_cat (de_v 5) (DO.de (do_lst (da_one (de_v 7)) (by exact (by decide : 1 ≤ sizeLine)))) (by rw [List.length_map]; show _ + 1 ≤ _; omega)), rfl⟩⟩
            · show D.lst (wy.map nD ++ [nD i]) = D.lst ((wy ++ [i]).map nD)
              rw [List.map_append]
              rfl
            · have z : (outE es (endW es wy)).length ≤ es.length := Nat.le_trans (List.length_filter_le _ _) (by rw [List.length_range]; exact Nat.le_refl _)
              rw [List.length_map, List.length_map]
              omega
            · rw [hst]
              exact hws
            · rw [hst, est]
              have em : (x.ws.dropLast ++ (outE es (endW es wy)).map fun i => wy ++ [i]).map nsD = x.ws.dropLast.map nsD ++ (outE es (endW es wy)).map fun i => nsD (wy ++ [i]) := by
                rw [List.map_append, List.map_map]
                rfl
              show _ = [_, _, _, _, Sl.own p ((x.ws.dropLast ++ (outE es (endW es wy)).map fun i => wy ++ [i]).map nsD), _, _, _]
              rw [em]
              rfl
          · have est : dstep es first x = ⟨x.ws.dropLast, x.fd⟩ := by
              unfold dstep
              rw [hgl]
              dsimp only
              rw [if_neg c1, if_neg c2]
            refine dss_cons (ds_if (m := false) (dt_is (dt_eqi (de_v 6) (de_v 3)) (decide_eq_false (by omega))) (fun h => by cases h) (fun _ => dss_cons (ds_if (m := false) (dt_is (dt_and (m := decide (first < endW es wy)) (n := !decide (endW es wy ∈ bgL es wy)) (dt_is (dt_gt (de_v 6) (de_v 3)) (by rw [decide_eq_decide]; omega)) fun _ => dt_notInL (de_v 6) (de_is (DO.de (do_lcMap (own := [("_law_index", 7)]) (bgD es) (blkOk_by (N := nCy) (sc := defScope sLCycs) (own := [("_law_index", 7)]) (by kernel_rfl)) (di_list (de_v 5)) rfl ?_ ?_)) (congrArg D.lst (bgs_map es wy)))) ?_)
              (fun h => by cases h) (fun _ => dss_nil (dss_nil (dss_nil ⟨wtL es (dit es first (k + 1)).ws, ?_, k + 1, .dat (nsD wy), .dat (nD (endW es wy)), rfl, ?_⟩))))))
            · intro d' hd'
              obtain ⟨j, hj, rfl⟩ := List.mem_map.mp hd'
              exact ⟨[7], _, _, by simp, fun _ _ _ _ _ => dg_name 7, fun _ _ _ _ _ => de_ixT (ds := [nD (ed es j).b, nD (ed es j).e, .str (ed es j).w]) (de_ixL (de_v 0) (de_v 7) (L2.atI_nat (ed_get (wo.r j hj)))) de_int rfl, rfl⟩
            · rw [List.length_map]; omega
            · rw [Bool.and_eq_false_iff, decide_eq_false_iff_not, Bool.not_eq_false', decide_eq_true_eq]
              by_cases y : first < endW es wy
              · exact .inr (Decidable.byContradiction fun z => c2 ⟨y, z⟩)
              · exact .inl y
            · rw [hst]
              exact hws
            · rw [hst, est]
              rfl
      · have hnil : x.ws = [] := by
          cases hx : x.ws with
          | nil => rfl
          | cons a l => rw [hx] at h; cases h
        refine dss_nil ⟨.dat (nD first), .own p (x.ws.map nsD), y5, y6, ?_⟩
        have ef : x.fd = cycsF es first := by
          rw [← hxk] at hnil ⊢
          exact cycsF_at hnil
        rw [cycs_succ, ← ef]
  · rintro δ2 ⟨x3, x4, x5, x6, rfl⟩
    have el : ((List.range (n : Int).toNat).map fun i : Nat => D.int (i : Int)).length = n := by
      rw [List.length_map, List.length_range]
      omega
    rw [el]
    refine dss_frz 2 rfl ?_
    exact dss_cons (ds_ret (de_v 2) rfl)
end
end Gr

/-! part Hx6 -/
set_option pp.maxSteps 400
namespace Gr
open PySem PySem.Spec PyProof.Rows L2 Dy Kk
/-! the values that are judged -/
section
variable {X : Cx} {a b : Expr} {δ δ1 δ2 : List Sl} {pos p2 p : Pos} {c c' : List Nat} {k : Nat}
theorem cutN_from {ds : List D} {k : Nat} (h : k ≤ ds.length) : Dy.cutD ds (some (k : Int)) none = ds.drop k := by
  unfold Dy.cutD
  rw [HT.sIx_nat, HT.sIx_none, Nat.min_eq_left h, List.take_of_length_le (by rw [List.length_drop]; exact Nat.le_refl _)]
theorem cutN_to {ds : List D} {k : Nat} (h : k ≤ ds.length) : Dy.cutD ds none (some (k : Int)) = ds.take k := by
  unfold Dy.cutD
  rw [HT.sIx_none, HT.sIx_nat, Nat.min_eq_left h, List.drop_zero, Nat.sub_zero]
theorem de_from (ha : DE X a δ (nsD c) δ1) (hb : DE X b δ1 (nD k) δ2) (h : k ≤ c.length) : DE X (.Subscript a (.Slice (some b) none none p2) pos) δ (nsD (c.drop k)) δ2 :=
  de_is (DO.de (do_slL (l := some (k : Int)) (h := none) ha (dp_some hb) dp_none)) (by rw [cutN_from (by rw [List.length_map]; exact h), ← List.map_drop])
theorem de_upto (ha : DE X a δ (nsD c) δ1) (hb : DE X b δ1 (nD k) δ2) (h : k ≤ c.length) : DE X (.Subscript a (.Slice none (some b) none p2) pos) δ (nsD (c.take k)) δ2 :=
  de_is (DO.de (do_slL (l := none) (h := some (k : Int)) ha dp_none (dp_some hb))) (by rw [cutN_to (by rw [List.length_map]; exact h), ← List.map_take])
theorem de_catN (ha : DE X a δ (nsD c) δ1) (hb : DE X b δ1 (nsD c') δ2) (h : c.length + c'.length ≤ 1000000) : DE X (.BinOp a .Add b pos) δ (nsD (c ++ c')) δ2 :=
  de_is (DO.de (do_cat ha hb (by rw [List.length_map, List.length_map]; exact h))) (by rw [← List.map_append])
theorem de_oneN (ha : DE X a δ (nD k) δ1) (hst : starEach [a] X.env = (false, eval a X.env) :: starEach [] X.env := by exact st_any rfl) : DE X (.List [a] pos) δ (nsD [k]) δ1 := DO.de (do_lst (da_one ha hst) (by exact (by decide : 1 ≤ sizeLine)))
theorem de_revN {j : Nat} {p1 p3 : Pos} (ha : DE X a δ (nsD c) δ1) : DE X (.Subscript a (.Slice none none (some (.UnaryOp .USub (.Constant (.int 1) j p1) p2)) p3) pos) δ (nsD c.reverse) δ1 :=
  de_is (DO.de (do_rev ha)) (by rw [← List.map_reverse])
theorem de_strI {i : Int} (hm : X.mg "str" = none) (h : DE X a δ (.int i) δ1) (hl : i.natAbs.log2 < 1920) (hg : Gl X "str" := by rfl) (he : starEach [a] X.env = (false, eval a X.env) :: starEach [] X.env := by exact st_any rfl) (hpl : (backTo pos (starEach [] X.env)).any (·.1) = false := by rfl) :
    DE X (.Call (.Name "str" p) [a] [] pos) δ (.str (toString i)) δ1 := fun F R H σ Q s k =>
  (pe_callTy call_str_int hg hm PyProof.Rows.boot_str paW (by decide) (by decide) he hpl).w ((da_one h he) F R H σ _ s fun vs R1 H1 t1 s1 ia => by
    cases ia with
    | cons i1 i2 =>
      cases i2
      cases i1
      exact ⟨i, rfl, hl, k _ R1 H1 t1 s1 (.str _)⟩)
end
def txD : D → D
  | .int i => .str (toString i)
  | _ => .non
def lessD (m : Nat) : D → D
  | .int i => .int (i - m)
  | _ => .non
abbrev at1 (s : S) (w : List Nat) : Nat := (Sp.pick s w.length).1.toNat
abbrev pk1 (m : Nat) (s : S) (w : List Nat) : Int × S := Sp.pick (Sp.pick s w.length).2 m
abbrev vA (s : S) (w : List Nat) : List D := [nsD w, nsD (w.drop (at1 s w) ++ w.take (at1 s w)), nsD w.reverse, nsD (w ++ w), nsD (w.take (at1 s w)), nsD (w ++ w.take 1)]
abbrev vB (m : Nat) (s : S) (w : List Nat) : D := nsD (w.take (at1 s w) ++ [(pk1 m s w).1.toNat] ++ w.drop (at1 s w + 1))
abbrev vC (w : List Nat) : List D := [.tup (w.map nD), .lst [nsD w], .lst ((w.map nD).map txD), .lst (w.map nD ++ [.non])]
abbrev vE (m : Nat) (w : List Nat) : D := .lst ((w.map nD).map (lessD m))
def v1N (m : Nat) (cs : List (List Nat)) (s : S) : Nat → List D × S
  | 0 => ([], s)
  | k + 1 => ((v1N m cs s k).1 ++ vA (v1N m cs s k).2 (cs.getD k []) ++ [vB m (v1N m cs s k).2 (cs.getD k [])] ++ vC (cs.getD k []) ++ [vE m (cs.getD k [])], (pk1 m (v1N m cs s k).2 (cs.getD k [])).2)
def drN (m : Nat) (s : S) : Nat → List Nat × S
  | 0 => ([], s)
  | k + 1 => ((drN m s k).1 ++ [(Sp.pick (drN m s k).2 ((m : Int) + 1)).1.toNat], (Sp.pick (drN m s k).2 ((m : Int) + 1)).2)
abbrev v2 (m : Nat) (s : S) : List Nat × S := drN m (Sp.pick s 4).2 (Sp.pick s 4).1.toNat
def v2N (m : Nat) (s : S) : Nat → List D × S
  | 0 => ([], s)
  | k + 1 => ((v2N m s k).1 ++ [nsD (v2 m (v2N m s k).2).1], (v2 m (v2N m s k).2).2)
abbrev v3 (m : Nat) : List D := [.non, .int 0, .bl true, .str "", .lst [], .tup [], .emp, .lst [.non], .lst [.bl true], .lst [.int (-1)], .lst [.int m], .str "0"]
abbrev vlA (m : Nat) (cs : List (List Nat)) (s : S) : List D × S := v1N m (cs.take 8) s (cs.take 8).length
abbrev vlB (m : Nat) (cs : List (List Nat)) (s : S) : List D × S := v2N m (vlA m cs s).2 6
abbrev vals (m : Nat) (cs : List (List Nat)) (s : S) : List D := (vlA m cs s).1 ++ (vlB m cs s).1 ++ v3 m
/-- a way among m edges -/
structure WyOk (m : Nat) (w : List Nat) : Prop where
  ne : w ≠ []
  len : w.length ≤ 20
  r : ∀ i ∈ w, i < m
theorem okV_ns {c : List Nat} (h : ∀ i ∈ c, i < 1000) (hl : c.length ≤ 60) : OkV (nsD c) := by
  refine ⟨⟨_, rfl⟩, (fun ds z => by cases z), fun ds z => ?_⟩
  cases z
  refine ⟨by rw [List.length_map]; exact hl, ?_, fun x hx => ?_⟩
  · show (c.map nD).all (okD 2) = true
    rw [List.all_map, List.all_eq_true]
    intro i hi
    have := h i hi
    have := Nat.log2_le_self i
    exact decide_eq_true (show i.log2 < 1920 by omega)
  · obtain ⟨i, _, rfl⟩ := List.mem_map.mp hx
    exact ⟨_, rfl⟩
theorem okV_one {d : D} (t : ∃ t, tyD d = some t) (r : ∀ ds, d ≠ .rol ds) (l : ∀ ds, d ≠ .lst ds) : OkV d := ⟨t, r, fun ds z => absurd z (l ds)⟩
theorem okV_lst {ds : List D} (hl : ds.length ≤ 60) (ho : ds.all (okD 2) = true) (ht : ∀ d ∈ ds, ∃ t, tyD d = some t) : OkV (.lst ds) := by
  refine ⟨⟨_, rfl⟩, (fun ds z => by cases z), fun ds' z => ?_⟩
  cases z
  exact ⟨hl, ho, ht⟩
theorem str_ok : ∀ i : Nat, i < 64 → PyData.strOk (toString (i : Int) : String) = true := by decide +kernel
theorem mem_or {α : Type} {p : α → Prop} {l m : List α} (h1 : ∀ x ∈ l, p x) (h2 : ∀ x ∈ m, p x) : ∀ x ∈ l ++ m, p x := fun x hx => (List.mem_append.mp hx).elim (h1 x) (h2 x)
theorem v1_ok {m : Nat} {w : List Nat} {s : S} (hm : m ≤ 60) (hw : WyOk m w) {n : Nat} (hd : Hd n s) : Hd (n + 2) (pk1 m s w).2 ∧ ∀ d ∈ vA s w ++ [vB m s w] ++ vC w ++ [vE m w], OkV d := by
  have hwl : 0 < w.length := List.length_pos_iff.mpr hw.ne
  have hm0 : 0 < m := by
    obtain ⟨i, hi⟩ := List.exists_mem_of_ne_nil _ hw.ne
    have := hw.r i hi
    omega
  have hl := hw.len
  obtain ⟨a1, a2, a3⟩ := Sp.pick_hd hd (m := (w.length : Int)) (by omega)
  obtain ⟨b1, b2, b3⟩ := Sp.pick_hd a1 (m := (m : Int)) (by omega)
  refine ⟨b1, ?_⟩
  have hb : (pk1 m s w).1.toNat < 1000 := by
    show (Sp.pick _ _).1.toNat < _
    omega
  have r1 : ∀ i ∈ w, i < 1000 := fun i hi => by
    have := hw.r i hi
    omega
  have rd : ∀ k, ∀ i ∈ w.drop k, i < 1000 := fun k i hi => r1 i (List.mem_of_mem_drop hi)
  have rt : ∀ k, ∀ i ∈ w.take k, i < 1000 := fun k i hi => r1 i (List.mem_of_mem_take hi)
  have ld : ∀ k, (w.drop k).length ≤ 20 := fun k => by rw [List.length_drop]; omega
  have lt : ∀ k, (w.take k).length ≤ 20 := fun k => by rw [List.length_take]; omega
  have hA : ∀ d ∈ vA s w, OkV d := by
    intro d hd
    simp only [List.mem_cons, List.not_mem_nil, or_false] at hd
    rcases hd with rfl | rfl | rfl | rfl | rfl | rfl
    · exact okV_ns r1 (by omega)
    · exact okV_ns (mem_or (rd _) (rt _)) (by rw [List.length_append]; have := ld (at1 s w); have := lt (at1 s w); omega)
    · exact okV_ns (fun i hi => r1 i (List.mem_reverse.mp hi)) (by rw [List.length_reverse]; omega)
    · exact okV_ns (mem_or r1 r1) (by rw [List.length_append]; omega)
    · exact okV_ns (rt _) (by have := lt (at1 s w); omega)
    · exact okV_ns (mem_or r1 (rt _)) (by rw [List.length_append]; have := lt 1; omega)
  have hB : OkV (vB m s w) := okV_ns (mem_or (mem_or (rt _) fun i hi => by rw [List.mem_singleton.mp hi]; exact hb) (rd _)) (by
    rw [List.length_append, List.length_append, List.length_singleton]
    have := ld (at1 s w + 1)
    have := lt (at1 s w)
    omega)
  have hC : ∀ d ∈ vC w, OkV d := by
    intro d hd
    simp only [List.mem_cons, List.not_mem_nil, or_false] at hd
    rcases hd with rfl | rfl | rfl | rfl
    · exact okV_one ⟨_, rfl⟩ (fun _ z => by cases z) (fun _ z => by cases z)
    · refine okV_lst (by exact (by decide : 1 ≤ 60)) ?_ fun d hd => by rw [List.mem_singleton.mp hd]; exact ⟨_, rfl⟩
      show (okD 2 (nsD w) && true) = true
      rw [Bool.and_true]
      show (w.map nD).all (okD 1) = true
      rw [List.all_map, List.all_eq_true]
      intro i hi
      have := r1 i hi
      have := Nat.log2_le_self i
      exact decide_eq_true (show i.log2 < 1920 by omega)
    · refine okV_lst (by rw [List.length_map, List.length_map]; omega) ?_ fun d hd => ?_
      · rw [List.all_map, List.all_map, List.all_eq_true]
        intro i hi
        exact str_ok i (by have := hw.r i hi; omega)
      · obtain ⟨e, he, rfl⟩ := List.mem_map.mp hd
        obtain ⟨i, _, rfl⟩ := List.mem_map.mp he
        exact ⟨_, rfl⟩
    · refine okV_lst (by rw [List.length_append, List.length_map]; show _ + 1 ≤ _; omega) ?_ (mem_or (fun d hd => ?_) fun d hd => by rw [List.mem_singleton.mp hd]; exact ⟨_, rfl⟩)
      · rw [List.all_append, List.all_map]
        have : (w.all (okD 2 ∘ nD)) = true := by
          rw [List.all_eq_true]
          intro i hi
          have := r1 i hi
          have := Nat.log2_le_self i
          exact decide_eq_true (show i.log2 < 1920 by omega)
        rw [this]
        rfl
      · obtain ⟨i, _, rfl⟩ := List.mem_map.mp hd
        exact ⟨_, rfl⟩
  have hE : OkV (vE m w) := by
    refine okV_lst (by rw [List.length_map, List.length_map]; omega) ?_ fun d hd => ?_
    · rw [List.all_map, List.all_map, List.all_eq_true]
      intro i hi
      have h1 := r1 i hi
      refine decide_eq_true (show (((i : Int) - (m : Int)).natAbs).log2 < 1920 from ?_)
      have := Nat.log2_le_self (((i : Int) - (m : Int)).natAbs)
      omega
    · obtain ⟨e, he, rfl⟩ := List.mem_map.mp hd
      obtain ⟨i, _, rfl⟩ := List.mem_map.mp he
      exact ⟨_, rfl⟩
  exact mem_or (mem_or (mem_or hA fun d hd => by rw [List.mem_singleton.mp hd]; exact hB) hC) fun d hd => by rw [List.mem_singleton.mp hd]; exact hE
theorem v1N_ok {m : Nat} {cs : List (List Nat)} {s : S} (hm : m ≤ 60) (hc : ∀ w ∈ cs, WyOk m w) {n : Nat} (hd : Hd n s) : ∀ k, k ≤ cs.length → Hd (n + 2 * k) (v1N m cs s k).2 ∧ (v1N m cs s k).1.length = 12 * k ∧ ∀ d ∈ (v1N m cs s k).1, OkV d
  | 0, _ => ⟨hd, rfl, fun d hd => by simp [v1N] at hd⟩
  | k + 1, hk => by
    obtain ⟨a, b, c⟩ := v1N_ok hm hc hd k (by omega)
    have hw : WyOk m (cs.getD k []) := by
      rw [List.getD_eq_getElem?_getD, List.getElem?_eq_getElem (by omega), Option.getD_some]
      exact hc _ (List.getElem_mem _)
    obtain ⟨x, y⟩ := v1_ok hm hw a
    refine ⟨x, ?_, fun d hd => ?_⟩
    · show ((v1N m cs s k).1 ++ _ ++ _ ++ _ ++ _).length = _
      have e1 : (vA (v1N m cs s k).2 (cs.getD k [])).length = 6 := rfl
      have e2 : (vC (cs.getD k [])).length = 4 := rfl
      rw [List.length_append, List.length_append, List.length_append, List.length_append, b, e1, e2]
      show 12 * k + 6 + 1 + 4 + 1 = _
      omega
    · have hd' : d ∈ (v1N m cs s k).1 ++ (vA (v1N m cs s k).2 (cs.getD k []) ++ [vB m (v1N m cs s k).2 (cs.getD k [])] ++ vC (cs.getD k []) ++ [vE m (cs.getD k [])]) := by
        have z : d ∈ (v1N m cs s k).1 ++ vA (v1N m cs s k).2 (cs.getD k []) ++ [vB m (v1N m cs s k).2 (cs.getD k [])] ++ vC (cs.getD k []) ++ [vE m (cs.getD k [])] := hd
        simpa only [List.append_assoc] using z
      rcases List.mem_append.mp hd' with z | z
      · exact c d z
      · exact y d z
theorem drN_ok {m : Nat} {s : S} {n : Nat} (hm : m ≤ 60) (hd : Hd n s) : ∀ k, Hd (n + k) (drN m s k).2 ∧ (drN m s k).1.length = k ∧ ∀ i ∈ (drN m s k).1, i < 1000
  | 0 => ⟨hd, rfl, fun d hd => by simp [drN] at hd⟩
  | k + 1 => by
    obtain ⟨a, b, c⟩ := drN_ok hm hd k
    obtain ⟨p1, p2, p3⟩ := Sp.pick_hd a (m := (m : Int) + 1) (by omega)
    refine ⟨p1, ?_, mem_or c fun i hi => ?_⟩
    · show ((drN m s k).1 ++ [_]).length = _
      rw [List.length_append, b]
      rfl
    · rw [List.mem_singleton.mp hi]
      omega
theorem v2N_ok {m : Nat} {s : S} {n : Nat} (hm : m ≤ 60) (hd : Hd n s) : ∀ k, Hd (n + 4 * k) (v2N m s k).2 ∧ (v2N m s k).1.length = k ∧ ∀ d ∈ (v2N m s k).1, OkV d
  | 0 => ⟨hd, rfl, fun d hd => by simp [v2N] at hd⟩
  | k + 1 => by
    obtain ⟨a, b, c⟩ := v2N_ok hm hd k
    obtain ⟨p1, p2, p3⟩ := Sp.pick_hd a (m := 4) (by decide)
    obtain ⟨q1, q2, q3⟩ := drN_ok (m := m) hm p1 (Sp.pick (v2N m s k).2 4).1.toNat
    refine ⟨Hd.mono q1 (by omega), ?_, mem_or c fun d hd => ?_⟩
    · show ((v2N m s k).1 ++ [_]).length = _
      rw [List.length_append, b]
      rfl
    · rw [List.mem_singleton.mp hd]
      exact okV_ns q3 (Nat.le_trans (Nat.le_of_eq q2) (by omega))
theorem v3_ok {m : Nat} (hm : m ≤ 60) : ∀ d ∈ v3 m, OkV d := by
  intro d hd
  simp only [List.mem_cons, List.not_mem_nil, or_false] at hd
  rcases hd with rfl | rfl | rfl | rfl | rfl | rfl | rfl | rfl | rfl | rfl | rfl | rfl
  · exact okV_one ⟨_, rfl⟩ (fun _ z => by cases z) (fun _ z => by cases z)
  · exact okV_one ⟨_, rfl⟩ (fun _ z => by cases z) (fun _ z => by cases z)
  · exact okV_one ⟨_, rfl⟩ (fun _ z => by cases z) (fun _ z => by cases z)
  · exact okV_one ⟨_, rfl⟩ (fun _ z => by cases z) (fun _ z => by cases z)
  · exact okV_lst (Nat.zero_le _) rfl fun d hd => by cases hd
  · exact okV_one ⟨_, rfl⟩ (fun _ z => by cases z) (fun _ z => by cases z)
  · exact okV_one ⟨_, rfl⟩ (fun _ z => by cases z) (fun _ z => by cases z)
  · exact okV_lst (by exact (by decide : 1 ≤ 60)) rfl fun d hd => by rw [List.mem_singleton.mp hd]; exact ⟨_, rfl⟩
  · exact okV_lst (by exact (by decide : 1 ≤ 60)) rfl fun d hd => by rw [List.mem_singleton.mp hd]; exact ⟨_, rfl⟩
  · exact okV_lst (by exact (by decide : 1 ≤ 60)) (by decide +kernel) fun d hd => by rw [List.mem_singleton.mp hd]; exact ⟨_, rfl⟩
  · refine okV_lst (by exact (by decide : 1 ≤ 60)) ?_ fun d hd => by rw [List.mem_singleton.mp hd]; exact ⟨_, rfl⟩
    show (okD 2 (.int (m : Int)) && true) = true
    rw [Bool.and_true]
    have := Nat.log2_le_self m
    exact decide_eq_true (show m.log2 < 1920 by omega)
  · exact okV_one ⟨_, rfl⟩ (fun _ z => by cases z) (fun _ z => by cases z)
theorem vals_ok {m : Nat} {cs : List (List Nat)} {s : S} (hm : m ≤ 60) (hc : ∀ w ∈ cs, WyOk m w) {n : Nat} (hd : Hd n s) : Hd (n + 40) (vlB m cs s).2 ∧ ∀ d ∈ vals m cs s, OkV d := by
  have h8 : (cs.take 8).length ≤ 8 := by rw [List.length_take]; omega
  obtain ⟨a, b, c⟩ := v1N_ok hm (cs := cs.take 8) (fun w hw => hc w (List.mem_of_mem_take hw)) hd (cs.take 8).length (Nat.le_refl _)
  obtain ⟨x, y, z⟩ := v2N_ok (m := m) hm a 6
  exact ⟨Hd.mono x (by omega), mem_or (mem_or c z) (v3_ok hm)⟩
end Gr

/-! part Hx7 -/
set_option pp.maxSteps 400
namespace Gr
open PySem PySem.Spec PyProof.Rows L2 Dy Kk
abbrev nVl : List Str := ["_law_spring_here", "_law_edges", "_law_cycles_here", "_law_found", "_law_way", "_law_at", "_law_turn", "_law_index", "_law_step"]
abbrev gV (p : Addr) (es : List Ed) (cs : List (List Nat)) (s : S) (x3 x4 x5 x6 : Sl) : List Sl := [.own p s.ds, .dat (esD es), .dat (.lst (cs.map nsD)), x3, x4, x5, x6, .no, .no]
theorem lst_app (a b : List D) : D.lst (a ++ b) = D.lst (a ++ b) := rfl
section
variable {P : Program} {w : World} {K : PySem.W.Frag} {mg : Str → Option Value} {base : Heap} {f : Addr} {fd : FuncData}
theorem h_sc18 : FnScope nVl ["_law_spring_here", "_law_edges", "_law_cycles_here"] (defScope sLVals) := ⟨rfl, rfl, rfl, by decide +kernel, rfl, by decide +kernel, by decide +kernel⟩
abbrev cVals : List D → List D → D → List D → Prop := fun hs ds d hs' => ∃ (n : Nat) (s : S) (es : List Ed) (cs : List (List Nat)), hs = s.ds ∧ ds = [esD es, .lst (cs.map nsD)] ∧ Hd n s ∧ n ≤ 40000 ∧ es.length ≤ 60 ∧ (∀ w ∈ cs, WyOk es.length w) ∧ d = .lst (vals es.length cs s) ∧ hs' = (vlB es.length cs s).2.ds
theorem law_values (F : Df K mg "_law_values" sLVals f fd) (T : Txt mg) (hS : mg "str" = none) (N : Sp.PickN P w K mg base) : FnG P w K mg base CX0 2 f (spH K cVals) := by
  refine fn_hoard F.fn h_sc18 (F.fn.binds fun _ _ _ _ _ _ us hl => match us, hl with | [_, _, _], _ => rfl) (by rintro hs ds d hs' ⟨_, _, _, _, rfl, rfl, _⟩; rfl) (by decide) fun cdv A outer s0 H E p hs ds d hs' g ⟨n, s, es, cs, e1, e2, hd, hn, hm, hcs, e3, e4⟩ => ?_
  subst e1 e2 e3 e4
  have nd := h_sc18.nd
  have hlog : ∀ j : Int, 0 < j → j ≤ 100 → j.natAbs.log2 < 9000 := fun j j0 j1 => Nat.lt_of_le_of_lt (Nat.log2_le_self _) (by omega)
  have h8 : (cs.take 8).length ≤ 8 := by rw [List.length_take]; omega
  have c8 : Dy.cutD (cs.map nsD) none (some 8) = (cs.take 8).map nsD := by
    unfold Dy.cutD
    have e : (8 : Int) = ((8 : Nat) : Int) := rfl
    rw [HT.sIx_none, e, HT.sIx_nat, List.drop_zero, Nat.sub_zero, List.map_take]
    by_cases hz : 8 ≤ (cs.map nsD).length
    · rw [Nat.min_eq_left hz]
    · rw [Nat.min_eq_right (by omega), List.take_of_length_le (Nat.le_refl _), List.take_of_length_le (by omega)]
  obtain ⟨fa, fb, fc⟩ := v1N_ok hm (cs := cs.take 8) (fun w hw => hcs w (List.mem_of_mem_take hw)) hd (cs.take 8).length (Nat.le_refl _)
  refine dss_cons (ds_setO 3 (do_lst da_nil (by exact Nat.zero_le _)) fun q0 => ?_)
  refine dss_cons (ds_for (di_list (items := (cs.take 8).map nsD) (de_is (DO.de (do_slL (l := none) (h := some 8) (de_v 2) dp_none (dp_some de_int))) (congrArg D.lst c8)))
    (fun i δ => ∃ q x4 x5 x6, δ = gV p es cs (v1N es.length (cs.take 8) s i).2 (.own q (v1N es.length (cs.take 8) s i).1) x4 x5 x6) ⟨q0, .no, .no, .no, rfl⟩ ?_ ?_)
  · rintro i d δ2 hi ⟨q, x4, x5, x6, rfl⟩
    have hlt : i < (cs.take 8).length := by
      have z := (List.getElem?_eq_some_iff.mp hi).1
      rw [List.length_map] at z
      exact z
    obtain ⟨wy, hwy⟩ : ∃ wy, (cs.take 8)[i] = wy := ⟨_, rfl⟩
    have hdd : d = nsD wy := by
      rw [List.getElem?_map, List.getElem?_eq_getElem hlt, hwy] at hi
      exact (Option.some.inj hi).symm
    subst hdd
    have hw : WyOk es.length wy := hcs wy (List.mem_of_mem_take (by rw [← hwy]; exact List.getElem_mem hlt))
    have eg : (cs.take 8).getD i [] = wy := by
      rw [List.getD_eq_getElem?_getD, List.getElem?_eq_getElem hlt, hwy]
      rfl
    obtain ⟨hh, hlen, _⟩ := v1N_ok hm (cs := cs.take 8) (fun w hw => hcs w (List.mem_of_mem_take hw)) hd i (by omega)
    have hT : v1N es.length (cs.take 8) s (i + 1) = ((v1N es.length (cs.take 8) s i).1 ++ vA (v1N es.length (cs.take 8) s i).2 wy ++ [vB es.length (v1N es.length (cs.take 8) s i).2 wy] ++ vC wy ++ [vE es.length wy], (pk1 es.length (v1N es.length (cs.take 8) s i).2 wy).2) := by
      rw [← eg]
      rfl
    rw [hT]
    generalize v1N es.length (cs.take 8) s i = r0 at hh hlen
    obtain ⟨acc, t⟩ := r0
    dsimp only at hh hlen ⊢
    have hwl : 0 < wy.length := List.length_pos_iff.mpr hw.ne
    have hl := hw.len
    have hm0 : 0 < es.length := by
      obtain ⟨i, hi⟩ := List.exists_mem_of_ne_nil _ hw.ne
      have := hw.r i hi
      omega
    have hw0 : (0 : Int) < (wy.length : Int) := by omega
    have hm1 : (0 : Int) < (es.length : Int) := by omega
    obtain ⟨a1, a2, a3⟩ := Sp.pick_hd hh hw0
    obtain ⟨b1, b2, b3⟩ := Sp.pick_hd a1 hm1
    have hlg1 := hlog _ hw0 (by omega)
    have hlg2 := hlog _ hm1 (by omega)
    obtain ⟨at_, eat⟩ : ∃ a, at1 t wy = a := ⟨_, rfl⟩
    have hat : at_ < wy.length := by
      rw [← eat]
      show (Sp.pick t wy.length).1.toNat < _
      omega
    refine ⟨[4], gV p es cs t (.own q acc) (.dat (nsD wy)) x5 x6, dg_name 4, ?_⟩
    refine dss_cons (ds_set 5 (d := nD at_) (δ1 := gV p es cs (Sp.pick t wy.length).2 (.own q acc) (.dat (nsD wy)) x5 x6) (de_is (Sp.de_pick 0 N g rfl (de_is (de_lenL T.len (de_v 4)) (by rw [List.length_map])) rfl hh (by omega) hw0 hlg1) (congrArg D.int (by rw [← eat]; show _ = ((Sp.pick t wy.length).1.toNat : Int); omega))) ?_)
    refine dss_frz 3 rfl ?_
    have eA : vA t wy = [nsD wy, nsD (wy.drop at_ ++ wy.take at_), nsD wy.reverse, nsD (wy ++ wy), nsD (wy.take at_), nsD (wy ++ wy.take 1)] := by rw [← eat]
    have ldr : ∀ k, (wy.drop k).length ≤ 20 := fun k => by rw [List.length_drop]; omega
    have ltk : ∀ k, (wy.take k).length ≤ 20 := fun k => by rw [List.length_take]; omega
    refine dss_cons (ds_setO 3 (ds := acc ++ vA t wy) (δ1 := gV p es cs (Sp.pick t wy.length).2 (.dat (.lst acc)) (.dat (nsD wy)) (.dat (nD at_)) x6) (by
      rw [eA]
      exact do_cat (de_v 3) (DO.de (do_lst (da_cons (de_v 4) (da_cons (de_catN (de_from (de_v 4) (de_v 5) (by omega)) (de_upto (de_v 4) (de_v 5) (by omega)) (by have := ldr at_; have := ltk at_; omega)) (da_cons (de_revN (de_v 4)) (da_cons (de_catN (de_v 4) (de_v 4) (by omega)) (da_cons (de_upto (de_v 4) (de_v 5) (by omega)) (da_one (de_catN (de_v 4) (de_upto (k := 1) (de_v 4) de_int (by omega)) (by have := ltk 1; omega)))))))) (by exact (by decide : 6 ≤ sizeLine)))) (by rw [hlen]; show 12 * i + 6 ≤ _; omega)) fun q1 => ?_)
    have eB : vB es.length t wy = nsD (wy.take at_ ++ [(pk1 es.length t wy).1.toNat] ++ wy.drop (at_ + 1)) := by rw [← eat]
    have l1 : (acc ++ vA t wy).length = 12 * i + 6 := by
      rw [List.length_append, hlen]
      rfl
    refine dss_cons (ds_app (p0 := fun h1 h2 => pe_bm PySem.F.plainAttrs_list PySem.F.slot_list_append PySem.F.type_list_append mt_append h1 h2) (d := vB es.length t wy) (δ1 := gV p es cs (pk1 es.length t wy).2 (.own q1 (acc ++ vA t wy)) (.dat (nsD wy)) (.dat (nD at_)) x6) 3 rfl (by
      rw [eB]
      exact de_catN (de_catN (de_upto (de_v 4) (de_v 5) (by omega)) (de_oneN (de_is (Sp.de_pick 0 N g rfl (de_is (de_lenL T.len (de_v 1)) (by rw [List.length_map])) rfl a1 (by omega) hm1 hlg2) (congrArg D.int (by show _ = ((Sp.pick (Sp.pick t wy.length).2 es.length).1.toNat : Int); omega)))) (by have := ltk at_; rw [List.length_singleton]; omega)) (de_from (de_v 4) (de_is (d2 := nD (at_ + 1)) (de_add (de_v 5) de_int) rfl) (by omega)) (by have := ldr (at_ + 1); have := ltk at_; rw [List.length_append, List.length_singleton]; omega)) rfl (by rw [l1]; omega) ?_)
    refine dss_frz 3 rfl ?_
    have l2 : (acc ++ vA t wy ++ [vB es.length t wy]).length = 12 * i + 7 := by
      rw [List.length_append, l1]
      rfl
    refine dss_cons (ds_setO 3 (ds := acc ++ vA t wy ++ [vB es.length t wy] ++ vC wy) (δ1 := gV p es cs (pk1 es.length t wy).2 (.dat (.lst (acc ++ vA t wy ++ [vB es.length t wy]))) (.dat (nsD wy)) (.dat (nD at_)) x6)
      (do_cat (de_v 3) (DO.de (do_lst (da_cons (de_tupL T.tuple (de_v 4)) (da_cons (DO.de (do_lst (da_one (de_v 4)) (by exact (by decide : 1 ≤ sizeLine)))) (da_cons (DO.de (do_lcMap (own := [("_law_index", 7)]) txD (blkOk_by (N := nVl) (sc := defScope sLVals) (own := [("_law_index", 7)]) (by kernel_rfl)) (di_list (de_v 4)) rfl ?_ ?_)) (da_one (DO.de (do_cat (de_v 4) (DO.de (do_lst (da_one de_non) (by exact (by decide : 1 ≤ sizeLine)))) ?_)))))) (by exact (by decide : 4 ≤ sizeLine)))) ?_) fun q2 => ?_)
    · intro d' hd'
      obtain ⟨j, hj, rfl⟩ := List.mem_map.mp hd'
      have := hw.r j hj
      have := Nat.log2_le_self j
      exact ⟨[7], _, _, by simp, fun _ _ _ _ _ => dg_name 7, fun _ _ _ _ _ => de_strI (i := (j : Int)) hS (de_v 7) (show j.log2 < 1920 by omega), rfl⟩
    · rw [List.length_map]; omega
    · rw [List.length_map]; show _ + 1 ≤ _; omega
    · rw [l2]; show 12 * i + 7 + 4 ≤ _; omega
    have l3 : (acc ++ vA t wy ++ [vB es.length t wy] ++ vC wy).length = 12 * i + 11 := by
      rw [List.length_append, l2]
      rfl
    refine dss_cons (ds_app (p0 := fun h1 h2 => pe_bm PySem.F.plainAttrs_list PySem.F.slot_list_append PySem.F.type_list_append mt_append h1 h2) (d := vE es.length wy) (δ1 := gV p es cs (pk1 es.length t wy).2 (.own q2 (acc ++ vA t wy ++ [vB es.length t wy] ++ vC wy)) (.dat (nsD wy)) (.dat (nD at_)) x6) 3 rfl (DO.de (do_lcMap (own := [("_law_index", 7)]) (lessD es.length) (blkOk_by (N := nVl) (sc := defScope sLVals) (own := [("_law_index", 7)]) (by kernel_rfl)) (di_list (de_v 4)) rfl ?_ ?_)) rfl (by rw [l3]; omega) (dss_nil ⟨q2, .dat (nsD wy), .dat (nD at_), x6, rfl⟩))
    · intro d' hd'
      obtain ⟨j, hj, rfl⟩ := List.mem_map.mp hd'
      exact ⟨[7], _, _, by simp, fun _ _ _ _ _ => dg_name 7, fun _ _ _ _ _ => de_is (de_sub (de_v 7) (de_lenL T.len (de_v 1))) (by rw [List.length_map]; rfl), rfl⟩
    · rw [List.length_map]; omega
  · rintro δ2 ⟨q, x4, x5, x6, rfl⟩
    rw [List.length_map]
    show DSs _ _ (gV p es cs (vlA es.length cs s).2 (.own q (vlA es.length cs s).1) x4 x5 x6) _
    have fa' : Hd (n + 16) (vlA es.length cs s).2 := Hd.mono fa (by omega)
    have fb' : (vlA es.length cs s).1.length ≤ 96 := by
      have z : (vlA es.length cs s).1.length = 12 * (cs.take 8).length := fb
      omega
    refine dss_cons (ds_for (di_range1 (n := 6) rfl T.range (da_one de_int) (by decide)) (fun i δ => ∃ y6, δ = gV p es cs (v2N es.length (vlA es.length cs s).2 i).2 (.own q ((vlA es.length cs s).1 ++ (v2N es.length (vlA es.length cs s).2 i).1)) x4 x5 y6) ⟨x6, by
      show _ = gV p es cs (vlA es.length cs s).2 (.own q ((vlA es.length cs s).1 ++ [])) x4 x5 x6
      rw [List.append_nil]⟩ ?_ ?_)
    · rintro i d δ3 hi ⟨y6, rfl⟩
      have hlt : i < 6 := by
        have z := (List.getElem?_eq_some_iff.mp hi).1
        rw [List.length_map, List.length_range] at z
        exact z
      obtain ⟨hh, hlen, _⟩ := v2N_ok (m := es.length) hm fa' i
      have hT : v2N es.length (vlA es.length cs s).2 (i + 1) = ((v2N es.length (vlA es.length cs s).2 i).1 ++ [nsD (v2 es.length (v2N es.length (vlA es.length cs s).2 i).2).1], (v2 es.length (v2N es.length (vlA es.length cs s).2 i).2).2) := rfl
      rw [hT]
      generalize v2N es.length (vlA es.length cs s).2 i = r0 at hh hlen
      obtain ⟨acc, t⟩ := r0
      dsimp only at hh hlen ⊢
      obtain ⟨p1, p2, p3⟩ := Sp.pick_hd hh (m := 4) (by decide)
      have hm1 : (0 : Int) < (es.length : Int) + 1 := by omega
      have hlg := hlog _ hm1 (by omega)
      refine ⟨[6], gV p es cs t (.own q ((vlA es.length cs s).1 ++ acc)) x4 x5 (.dat d), dg_name 6, ?_⟩
      refine dss_cons (ds_app (p0 := fun h1 h2 => pe_bm PySem.F.plainAttrs_list PySem.F.slot_list_append PySem.F.type_list_append mt_append h1 h2) (d := nsD (v2 es.length t).1) (δ1 := gV p es cs (v2 es.length t).2 (.own q ((vlA es.length cs s).1 ++ acc)) x4 x5 (.dat d)) 3 rfl (DO.de (do_lc (own := [("_law_step", 8)]) (ds := (v2 es.length t).1.map nD) (δ' := gV p es cs (v2 es.length t).2 (.own q ((vlA es.length cs s).1 ++ acc)) x4 x5 (.dat d)) (blkOk_by (N := nVl) (sc := defScope sLVals) (own := [("_law_step", 8)]) (by kernel_rfl)) (di_range1 rfl T.range (da_one (Sp.de_pick 0 N g rfl de_int rfl hh (by omega) (by decide) (by decide +kernel))) (by omega))
        (fun i ac δ => ac = (drN es.length (Sp.pick t 4).2 i).1.map nD ∧ δ = gV p es cs (drN es.length (Sp.pick t 4).2 i).2 (.own q ((vlA es.length cs s).1 ++ acc)) x4 x5 (.dat d)) ⟨rfl, rfl⟩ ?_ ?_ ?_)) rfl (by rw [List.length_append]; omega) (dss_nil ⟨.dat d, ?_⟩))
      · rintro k d' ac δ4 hk ⟨rfl, rfl⟩
        have hkl : k < 4 := by
          have z := (List.getElem?_eq_some_iff.mp hk).1
          rw [List.length_map, List.length_range] at z
          omega
        obtain ⟨x1, _, _⟩ := drN_ok (m := es.length) hm p1 k
        obtain ⟨_, u2, u3⟩ := Sp.pick_hd x1 hm1
        refine ⟨[8], _, true, _, by simp, fun _ _ _ _ _ => dg_name 8, fun _ _ _ _ _ => dts_nil, nD (Sp.pick (drN es.length (Sp.pick t 4).2 k).2 ((es.length : Int) + 1)).1.toNat, _, fun _ _ _ _ _ => de_is (Sp.de_pick 0 N ⟨g.rm, g.gd⟩ rfl (de_is (de_add (de_lenL T.len (de_v 1)) de_int) (by rw [List.length_map])) rfl x1 (by omega) hm1 hlg) (congrArg D.int (by omega)), ?_, rfl⟩
        show _ ++ [_] = ((drN es.length (Sp.pick t 4).2 k).1 ++ [_]).map nD
        rw [List.map_append]
        rfl
      · rintro ac δ4 ⟨e1, e2⟩
        rw [List.length_map, List.length_range] at e1 e2
        exact ⟨e1, e2⟩
      · rw [List.length_map, List.length_range]
        omega
      · show _ = gV p es cs _ (.own q ((vlA es.length cs s).1 ++ (acc ++ [nsD (v2 es.length t).1]))) x4 x5 (.dat d)
        rw [← List.append_assoc]
        rfl
    · rintro δ3 ⟨y6, rfl⟩
      rw [List.length_map, List.length_range]
      show DSs _ _ (gV p es cs (vlB es.length cs s).2 (.own q ((vlA es.length cs s).1 ++ (vlB es.length cs s).1)) x4 x5 y6) _
      obtain ⟨hh, hlen, _⟩ := v2N_ok (m := es.length) hm fa' 6
      refine dss_frz 3 rfl ?_
      refine dss_cons (ds_ret (d := .lst (vals es.length cs s)) (DO.de (do_cat (de_v 3) (DO.de (do_lst (ds := v3 es.length) (da_cons de_non (da_cons de_int (da_cons de_bl (da_cons de_str (da_cons (DO.de (do_lst da_nil (by exact Nat.zero_le _))) (da_cons (de_tup da_nil (by exact Nat.zero_le _)) (da_cons de_emp (da_cons (DO.de (do_lst (da_one de_non) (by exact (by decide : 1 ≤ sizeLine)))) (da_cons (DO.de (do_lst (da_one de_bl) (by exact (by decide : 1 ≤ sizeLine)))) (da_cons (DO.de (do_lst (da_one (de_neg de_int)) (by exact (by decide : 1 ≤ sizeLine)))) (da_cons (DO.de (do_lst (da_one (de_is (de_lenL T.len (de_v 1)) (by rw [List.length_map]))) (by exact (by decide : 1 ≤ sizeLine)))) (da_one de_str))))))))))))  (by exact (by decide : 12 ≤ sizeLine)))) ?_)) ⟨rfl, rfl⟩)
      have z : (vlB es.length cs s).1.length = 6 := hlen
      rw [List.length_append]
      show _ + 12 ≤ _
      omega
end
end Gr

/-! part Gw8 -/
set_option pp.maxSteps 400
namespace Gr
open PySem PySem.Spec PyProof.Rows L2 Dy Kk
abbrev nsGr : List Str := ["depth_row", "edge_row"]
abbrev Gra (C : Addr) (dd : List Nat) (es : List Ed) : D := .obj C nsGr [nsD dd, esD es]
structure Cg (K : PySem.W.Frag) (mg : Str → Option Value) (C : Addr) : Prop where
  own : Own K C
  n0 : NoAttr K C "depth_row"
  n1 : NoAttr K C "edge_row"
  gl : mg "Graph" = some (.ref C)
section
variable {P : Program} {w : World} {K : PySem.W.Frag} {mg : Str → Option Value} {base : Heap} {f C CF : Addr} {fd : FuncData}
theorem h_sc10 : FnScope ["self", "depths", "edges", "found"] ["self", "depths", "edges"] (defScope sGIni) := ⟨rfl, rfl, rfl, by decide +kernel, rfl, by decide +kernel, by decide +kernel⟩
abbrev cGIni : List D → List Str → List D → Prop := fun ds ns fds => ∃ (dd : List Nat) (es : List Ed), ds = [nsD dd, esD es] ∧ Net dd es ∧ stuckC dd es = none ∧ ns = nsGr ∧ fds = [nsD dd, esD es]
theorem gInit (F : Fun K "__init__" "Graph.__init__" sGIni f fd) (c : Cg K mg C) (T : Txt mg) (G1 : Gn P w K mg base "require_network" 4 (spP K cReqNet)) (G2 : Gn P w K mg base "stuck_cycle" 2 (spP K cStuckC)) : FnG P w K mg base CX0 5 f (spI K C cGIni) := by
  refine fn_init F h_sc10 (F.binds fun _ _ _ _ _ _ us hl => match us, hl with | [_, _, _], _ => rfl) (by rintro ds ns fds ⟨_, _, rfl, _⟩; rfl) (by decide) fun cdv A outer s H X p dx ds ns fds g ⟨dd, es, e, hn, hs, e1, e2⟩ => ?_
  subst e e1 e2
  have nd := h_sc10.nd
  refine is_ds (ds_expr (de_callN G1 g (da_cons (de_v 1) (da_one (de_v 2))) ⟨dd, es, rfl, hn, rfl⟩) rfl) ?_
  refine is_ds (ds_set 3 (d := .non) (de_is (de_callN G2 (k' := 2) ⟨g.rm.mono (by decide), g.gd⟩ (da_cons (de_v 1) (da_one (de_v 2))) ⟨dd, es, rfl, hn, rfl⟩) (by rw [hs]; rfl)) rfl) ?_
  refine is_ds (ds_if (m := false) (dt_is (dt_notNone (de_v 3)) rfl) (fun h => by cases h) (fun _ => dss_nil rfl)) ?_
  exact is_fld 0 c.own.cl c.n0 (DO.de (do_listL T.list (de_v 1))) rfl (is_fld 0 c.own.cl c.n1 (DO.de (do_listL T.list (de_v 2))) rfl is_nil (by decide) (by decide +kernel)) (by decide) (by decide +kernel)
abbrev cGIniX : List D → D → Prop := fun ds d => ∃ (p : Addr) (dd : List Nat) (es : List Ed) (c : List Nat), ds = [.at_ p, nsD dd, esD es] ∧ Net dd es ∧ stuckC dd es = some c ∧ d = nsD c
theorem gInitX (F : Fun K "__init__" "Graph.__init__" sGIni f fd) (ec : ExcF P w K mg base "StuckCycle" CF "cycle") (G1 : Gn P w K mg base "require_network" 4 (spP K cReqNet)) (G2 : Gn P w K mg base "stuck_cycle" 2 (spP K cStuckC)) : FnG P w K mg base (L2.CX P w) 5 f (spRF K CF "cycle" cGIniX) := by
  refine fn_raiseF F h_sc10 (F.binds fun _ _ _ _ _ _ us hl => match us, hl with | [_, _, _], _ => rfl) (by rintro ds d ⟨_, _, _, _, rfl, _⟩; rfl) (by decide) fun cdv A outer s H R E ds d g tk hq ⟨p, dd, es, c, e, hn, hs, e'⟩ => ?_
  subst e e'
  have nd := h_sc10.nd
  refine dsx_cons _ (ds_expr (de_callN G1 g (da_cons (de_v 1) (da_one (de_v 2))) ⟨dd, es, rfl, hn, rfl⟩) rfl) ?_
  refine dsx_cons _ (ds_set 3 (d := nsD c) (de_is (de_callN G2 (k' := 2) ⟨g.rm.mono (by decide), g.gd⟩ (da_cons (de_v 1) (da_one (de_v 2))) ⟨dd, es, rfl, hn, rfl⟩) (by rw [hs]; rfl)) rfl) ?_
  refine dsx_if (dt_is (dt_notNone (de_v 3)) rfl) ?_
  exact dsx_raise rfl tk ec (g.rm.mono (by decide)) (de_v 3) hq
theorem h_sc11 : FnScope ["self"] ["self"] (defScope sGDep) := ⟨rfl, rfl, rfl, by decide +kernel, rfl, by decide +kernel, by decide +kernel⟩
theorem h_sc12 : FnScope ["self"] ["self"] (defScope sGEdg) := ⟨rfl, rfl, rfl, by decide +kernel, rfl, by decide +kernel, by decide +kernel⟩
abbrev cGDep (C : Addr) : List D → List D → Prop := fun ds r => ∃ dd es, ds = [Gra C dd es] ∧ r = dd.map nD
abbrev cGEdg (C : Addr) : List D → List D → Prop := fun ds r => ∃ dd es, ds = [Gra C dd es] ∧ r = es.map eD
theorem gDep (F : Fun K "depths" "Graph.depths" sGDep f fd) (c : Cg K mg C) (T : Txt mg) : FnG P w K mg base CX0 1 f (spO K (cGDep C)) := by
  refine fn_new F h_sc11 (F.binds fun _ _ _ _ _ _ us hl => match us, hl with | [_], _ => rfl) (by rintro ds d ⟨_, _, rfl, _⟩; rfl) (by decide) fun cdv A outer s H E ds r g ⟨dd, es, e, e'⟩ => ?_
  subst e e'
  have nd := h_sc11.nd
  exact dss_cons (ds_retO (do_listL T.list (de_fld c.own.cl c.n0 (de_v 0))) rfl)
theorem gEdg (F : Fun K "edges" "Graph.edges" sGEdg f fd) (c : Cg K mg C) (T : Txt mg) : FnG P w K mg base CX0 1 f (spO K (cGEdg C)) := by
  refine fn_new F h_sc12 (F.binds fun _ _ _ _ _ _ us hl => match us, hl with | [_], _ => rfl) (by rintro ds d ⟨_, _, rfl, _⟩; rfl) (by decide) fun cdv A outer s H E ds r g ⟨dd, es, e, e'⟩ => ?_
  subst e e'
  have nd := h_sc12.nd
  exact dss_cons (ds_retO (do_listL T.list (de_fld c.own.cl c.n1 (de_v 0))) rfl)
end
end Gr

/-! part Ly77 -/
set_option pp.maxSteps 400
/-! try: y = G(..) .. / except x as n: z = n.f -/
namespace Dy
open PySem PySem.Spec PyProof.Rows L2
section
variable {X : Cx} {k i iy j : Nat} {f C CF : Addr} {e : Expr} {es : List Expr} {body rest suite : List Stmt} {b₀ : Stmt} {pos pos2 pos3 pos' np pn1 pn2 pn3 pg py pz : Pos} {x n y z gn fl : Str} {δ δ1 : List Sl} {ds : List D} {d : D} {Φ : DD}
theorem ds_tryAs_set {Cc : List D → D → Prop} (ec : ExcF X.prog X.w X.K X.mg X.base x CF fl) (hs : X.stack = X.env :: X.outer) (hf : X.env.frame = some X.env.locals) (M : Mk X.K C f) (F : FnG X.prog X.w X.K X.mg X.base (L2.CX X.prog X.w) k f (spRF X.K CF fl Cc)) (g : Gx X (k + 1))
    (hm : X.mg gn = some (.ref C)) (ha : ∀ pn xe, DA (X.tr pn xe) (e :: es) δ ds δ1) (cc : ∀ p, Cc (.at_ p :: ds) d) (j : Nat) (q : Φ.nx (δ1.set j (.dat d))) (hi0 : δ1[i]? = some .no) (hij : i ≠ j := by decide) (hiy : X.N[iy]? = some y := by rfl) (hN : X.N.Nodup := by first | assumption | decide) (hi : X.N[i]? = some n := by rfl) (hj : X.N[j]? = some z := by rfl) (hln : X.env.kindOf n = some .local := by rfl)
    (hly : Loc X.env.scope y := by first | exact Or.inl rfl | exact Or.inr rfl) (hfy : X.fn y = true ∨ X.env.scope.names.lookup y = some .local := by first | exact .inl rfl | exact .inr rfl)
    (hlz : Loc X.env.scope z := by first | exact Or.inl rfl | exact Or.inr rfl) (hfz : X.env.scope.names.lookup z = some .local := by rfl)
    (hg : Gl X x := by rfl) (hd : (x == ("__debug__" : Str)) = false := by decide) (hgg : Gl X gn := by rfl) (hgd : (gn == ("__debug__" : Str)) = false := by decide)
    (hv : Vis X.env.scope n := by first | exact Or.inl rfl | exact Or.inr (Or.inl rfl) | exact Or.inr (Or.inr rfl)) (hnd : (n == ("__debug__" : Str)) = false := by decide) (hnc : (n == ("__classdict__" : Str)) = false := by decide)
    (hst : ∀ pn xe, starEach (e :: es) (X.tr pn xe).env = (false, eval e (X.tr pn xe).env) :: starEach es (X.tr pn xe).env := by intro _ _; exact st_any rfl) (hpl : ∀ pn xe, (backTo pos2 (starEach es (X.tr pn xe).env)).any (·.1) = false := by intro _ _; rfl)
    (hs2 : swapsWith (.Call (.Name gn pg) (e :: es) [] pos2) (some (.Name y py)) pos3.line X.env = pure false := by rfl)
    (hs3 : swapsWith (.Attribute (.Name n pn1) fl pn2) (some (.Name z pz)) pn3.line X.env = pure false := by rfl) :
    DS X (.Try (.Assign [.Name y py] (.Call (.Name gn pg) (e :: es) [] pos2) pos3 :: rest) [.ExceptHandler (some (.Name x np)) (some n) [.Assign [.Name z pz] (.Attribute (.Name n pn1) fl pn2) pn3] pos'] [] [] pos) δ Φ := fun F0 R H σ E0 s k0 => by
  refine (ps_try_as (i := i) (c := .ref CF) (Wout := fun _ _ _ _ => False) (ts := fun a cls d D σ H => tXf a cls d CF fl (tVar i) σ H fun v H' => D.nx (σ.set j (some v)) H')
    (tb := fun W D σ H => ∀ pn xe, Takes (X.tr pn xe) W → wSs (X.tr pn xe) (.Assign [.Name y py] (.Call (.Name gn pg) (e :: es) [] pos2) pos3 :: rest) D σ H) hs hf hN hi hln ⟨hg, hd, .inl ec.gl⟩ LamX.takes0
    (fun W pn xe tk _ => ⟨fun pins s σ H D I h => (h pn xe tk).run pins s I⟩) (fun a oe cls d pn hz hvs => pss_one (ps_set (X := X.suite a ((a, oe) :: pn)) (i := j) hN hj hlz (pe_xf ec.xf ec.no hz hvs (pe_var hi hv hnd hnc)) hs3 (.inr hfz)))).w fun pn xe tk => ?_
  refine (pss_cons psW pssW).w ((ps_set (X := X.tr pn xe) (i := iy) hN hiy hly peW hs2 hfy).w ((pe_makeX (X := X.tr pn xe) (E := WE _) M F ⟨g.rm, g.gd⟩ (fun σ => passAt tk σ) hm hgg hgd (hst pn xe) (hpl pn xe)).w (ha pn xe F0 R H σ _ s fun vs R1 H1 t1 s1 ia => ?_)))
  intro z dx hz hdx hne
  have hil : i < δ1.length := (List.getElem?_eq_some_iff.mp hi0).1
  have ry : R1 z = none := s1.rg.free hz
  have e1 : ∀ b o, H1 b = some o → upd (upd H1 dx (.own z)) z (.ins C dx []) b = some o := fun b o q => by
    rw [upd_ne (ne_of_none q hz), upd_ne (ne_of_none q hdx)]
    exact q
  refine ⟨R1, .at_ z :: ds, d, fun b o q => e1 b o (s1.rg b o q), .cons (.at_ z) ia, cc z, fun R2 H2 dd v t2 e2 r2 iv hx => ⟨true, ec.em, fun _ a ha' => ?_, fun z => by cases z⟩⟩
  have keep : ∀ b o, H1 b = some o → H2 b = some o := fun b o q => e2 b o (e1 b o q)
  have t3 : Tr H1 R1 R2 := t2.low e1
  have hiσ : i < σ.length := by rw [s1.ln]; exact hil
  refine ⟨.ref a, List.getElem?_set_self hiσ, rfl, rfl, dd, [(fl, v)], v, rfl, hx, by rw [List.lookup_cons_self], ?_⟩
  have s2 := s1.after t3 keep r2
  have s3 := s2.setD (i := j) iv
  have s4 := s3.setN (i := i) (v := none)
  have eδ : (δ1.set j (.dat d)).set i .no = δ1.set j (.dat d) := by
    have hgi : (δ1.set j (.dat d))[i]? = some .no := by rw [List.getElem?_set_ne (Ne.symm hij)]; exact hi0
    obtain ⟨h1, h2⟩ := List.getElem?_eq_some_iff.mp hgi
    rw [← h2]
    exact List.set_getElem_self h1
  rw [eδ] at s4
  have eσ : ((σ.set i (some (V.ref a))).set j (some v)).set i none = (σ.set j (some v)).set i none := by
    rw [List.set_comm _ _ hij, List.set_set]
  show E0.nx (((σ.set i (some (V.ref a))).set j (some v)).set i none) H2
  rw [eσ]
  exact k0.nx R2 H2 _ _ (t1.trans (t3.low fun b o q => s1.fr b o q)) s4 q
end
end Dy

/-! part Hx8 -/
set_option pp.maxSteps 400
namespace Gr
open PySem PySem.Spec PyProof.Rows L2 Dy Kk
theorem dss_thenE {X : Cx} {st : Stmt} {sts : List Stmt} {δ : List Sl} {Φ : DD} (Pn : List Sl → Prop) (h : DS X st δ { nx := Pn }) (r : ∀ δ1, Pn δ1 → DSs X sts δ1 Φ) : DSs X (st :: sts) δ Φ := dss_cons fun F R H σ E s k0 => h F R H σ E s
  ⟨fun R' H' σ' δ' t s' q => k0.nx R' H' σ' δ' t s' (r δ' q), fun _ _ _ _ _ _ _ _ _ z => False.elim z, fun _ _ _ _ _ _ _ _ _ _ _ _ _ _ z => False.elim z, fun _ _ _ _ _ _ z => False.elim z, fun _ _ _ _ _ _ z => False.elim z⟩
theorem Wy.ok (y : Wy) : okD 1 (.str y.s) = true := by cases y <;> decide +kernel
theorem okD_es {dd : List Nat} {es : List Ed} (h : Net dd es) : okD 2 (esD es) = true := by
  show (es.map eD).all (okD 1) = true
  rw [List.all_eq_true]
  intro d hd
  obtain ⟨x, hx, rfl⟩ := List.mem_map.mp hd
  have hk := h.x x hx
  obtain ⟨y, hw, _⟩ := hk.f
  have n2 := h.n2
  have l1 := Nat.log2_le_self x.b
  have l2 := Nat.log2_le_self x.e
  have h1 := hk.b
  have h2 := hk.e
  have a1 : okD 0 (nD x.b) = true := decide_eq_true (show x.b.log2 < 1920 by omega)
  have a2 : okD 0 (nD x.e) = true := decide_eq_true (show x.e.log2 < 1920 by omega)
  have a3 : okD 0 (.str x.w) = true := by rw [hw]; cases y <;> decide +kernel
  show [nD x.b, nD x.e, D.str x.w].all (okD 0) = true
  rw [List.all_cons, List.all_cons, List.all_cons, a1, a2, a3]
  rfl
theorem eqv_ok {n : Nat} {d : D} (h : okD n d = true) : PyData.eqv (py d) (py d) = true := PySem.SeqAt.eqv_refl _ (ok_lay n _ h)
theorem okD_dd {dd : List Nat} {es : List Ed} (h : Net dd es) : okD 2 (nsD dd) = true := by
  show (dd.map nD).all (okD 1) = true
  rw [List.all_map, List.all_eq_true]
  intro i hi
  have := (h.d i hi).2
  have := Nat.log2_le_self i
  exact decide_eq_true (show i.log2 < 1920 by omega)
theorem okD_two {dd : List Nat} {es : List Ed} (h : Net dd es) : okD 3 (.lst [nsD dd, esD es]) = true := by
  show (okD 2 (nsD dd) && (okD 2 (esD es) && true)) = true
  rw [okD_dd h, okD_es h]
  rfl
theorem okD_three {dd : List Nat} {es : List Ed} (h : Net dd es) : okD 3 (.lst [nsD dd, esD es, nD dd.length]) = true := by
  show (okD 2 (nsD dd) && (okD 2 (esD es) && (okD 2 (nD dd.length) && true))) = true
  have n2 := h.n2
  have := Nat.log2_le_self dd.length
  have a : okD 2 (nD dd.length) = true := decide_eq_true (show dd.length.log2 < 1920 by omega)
  rw [okD_dd h, okD_es h, a]
  rfl
theorem cyc_wy {es : List Ed} {n : Nat} {c : List Nat} (hn : n ≤ 14) (hb : ∀ i < es.length, (ed es i).b < n) (h : c ∈ cycs es n) : WyOk es.length c := by
  obtain ⟨f, hf, hF⟩ := mem_cycs.mp h
  refine ⟨hF.w.ne, ?_, hF.w.r⟩
  have z := nodup_lt (n := n) hF.w.nd fun v hv => by
    obtain ⟨i, hi, rfl⟩ := List.mem_map.mp hv
    exact hb i (hF.w.r i hi)
  rw [List.length_map] at z
  omega
def stkV (dd : List Nat) (es : List Ed) (d : D) : Bool := stuckB dd es (natsD d)
theorem due_map (dd : List Nat) (es : List Ed) : (((cycs es dd.length).map nsD).filter (stkV dd es)).map (fun d => d) = (dueL dd es).map nsD := by
  rw [List.map_id', List.filter_map]
  have e : (stkV dd es ∘ nsD) = stuckB dd es := by
    funext c
    show stuckB dd es (natsOf (c.map nD)) = _
    rw [nats_self]
  rw [e]
  rfl
section
variable {P : Program} {w : World} {K : PySem.W.Frag} {mg : Str → Option Value} {base : Heap} {f C CF : Addr} {fd : FuncData}
theorem h_sc19 : FnScope ["self"] ["self"] (defScope sGLen) := ⟨rfl, rfl, rfl, by decide +kernel, rfl, by decide +kernel, by decide +kernel⟩
abbrev cGLen (C : Addr) : List D → D → Prop := fun ds d => ∃ dd es, ds = [Gra C dd es] ∧ d = .int (dd.length : Int)
theorem gLen (F : Fun K "__len__" "Graph.__len__" sGLen f fd) (c : Cg K mg C) (T : Txt mg) : FnG P w K mg base CX0 1 f (spP K (cGLen C)) := by
  refine fn_pure F h_sc19 (F.binds fun _ _ _ _ _ _ us hl => match us, hl with | [_], _ => rfl) (by rintro ds d ⟨_, _, rfl, _⟩; rfl) (by decide) fun cdv A outer s H E ds r g ⟨dd, es, e, e'⟩ => ?_
  subst e e'
  have nd := h_sc19.nd
  exact dss_cons (ds_ret (de_is (de_lenL T.len (de_fld c.own.cl c.n0 (de_v 0))) (by rw [List.length_map])) rfl)
/-- the class Graph, in a law's hands -/
structure GrL (P : Program) (w : World) (K : PySem.W.Frag) (mg : Str → Option Value) (base : Heap) (C CF : Addr) : Prop where
  c : Cg K mg C
  ec : ExcF P w K mg base "StuckCycle" CF "cycle"
  mki : ∃ f, Mk K C f ∧ FnG P w K mg base CX0 5 f (spI K C cGIni) ∧ FnG P w K mg base (L2.CX P w) 5 f (spRF K CF "cycle" cGIniX)
  dep : ∃ pa f, PropOf K C "depths" pa f ∧ FnG P w K mg base CX0 1 f (spO K (cGDep C))
  edg : ∃ pa f, PropOf K C "edges" pa f ∧ FnG P w K mg base CX0 1 f (spO K (cGEdg C))
  len : ∃ f, Spc K C "__len__" f ∧ FnG P w K mg base CX0 1 f (spP K (cGLen C))
abbrev nRt : List Str := ["_law_spring_here", "_law_depths", "_law_edges", "_law_cycles_here", "_law_due", "_law_kept", "_law_found", "_law_made", "e", "_law_value", "_law_good", "_law_way"]
theorem h_sc20 : FnScope nRt ["_law_spring_here", "_law_depths", "_law_edges"] (defScope sRight) := ⟨rfl, rfl, rfl, by decide +kernel, rfl, by decide +kernel, by decide +kernel⟩
abbrev gR (p : Addr) (dd : List Nat) (es : List Ed) (s : S) (x3 x4 x5 x6 x7 x9 x10 : Sl) : List Sl := [.own p s.ds, .dat (nsD dd), .dat (esD es), x3, x4, x5, x6, x7, .no, x9, x10, .no]
abbrev cRightK : List D → List D → D → List D → Prop := fun hs ds d hs' => ∃ (n : Nat) (s : S) (dd : List Nat) (es : List Ed), hs = s.ds ∧ ds = [nsD dd, esD es] ∧ Hd n s ∧ n ≤ 30000 ∧ Net dd es ∧ es.length ≤ 16 ∧ dd.length ≤ 14 ∧ d = .bl true ∧ hs' = (vlB es.length (cycs es dd.length) s).2.ds
theorem law_rightK (F : Df K mg "_law_right" sRight f fd) (T : Txt mg) (k : GrL P w K mg base C CF) (GC : Gn P w K mg base "_law_cycles" 2 (spP K cLCycs)) (GL : Gn P w K mg base "_law_is_stuck" 5 (spP K cLStuckG)) (GI : Gn P w K mg base "_law_is_cycle" 2 (spP K cIsCycG)) (GV : Gn P w K mg base "_law_values" 2 (spH K cVals)) (GS : Gn P w K mg base "is_stuck" 5 (spP K cIsStuckG)) : FnG P w K mg base CX0 7 f (spH K cRightK) := by
  refine fn_hoard F.fn h_sc20 (F.fn.binds fun _ _ _ _ _ _ us hl => match us, hl with | [_, _, _], _ => rfl) (by rintro hs ds d hs' ⟨_, _, _, _, rfl, rfl, _⟩; rfl) (by decide) fun cdv A outer s0 H E p hs ds d hs' g ⟨n, s, dd, es, e1, e2, hd, hn, hN, h16, h14, e3, e4⟩ => ?_
  subst e1 e2 e3 e4
  have nd := h_sc20.nd
  obtain ⟨fi, M, GMi, GMx⟩ := k.mki
  obtain ⟨pa1, f1, P1, G1⟩ := k.dep
  obtain ⟨pa2, f2, P2, G2⟩ := k.edg
  obtain ⟨f3, P3, G3⟩ := k.len
  have hb : ∀ i < es.length, (ed es i).b < dd.length := fun i hi => hN.ok.edB hi
  have hwy : ∀ w ∈ cycs es dd.length, WyOk es.length w := fun w hw => cyc_wy h14 hb hw
  have hcl : (cycs es dd.length).length ≤ 1000000 := by
    have z := cycs_len (es := es) dd.length
    have z2 : dd.length * 2 ^ es.length ≤ 14 * 65536 := Nat.mul_le_mul h14 (pow16 h16)
    omega
  have n2 := hN.n2
  refine dss_cons (ds_set 3 (d := .lst ((cycs es dd.length).map nsD)) (δ1 := gR p dd es s .no .no .no .no .no .no .no) (de_callN GC g (da_cons (de_v 2) (da_one (de_is (d2 := nD dd.length) (de_lenL T.len (de_v 1)) (by rw [List.length_map])))) ⟨es, dd.length, rfl, hN.esOk, h16, h14, rfl⟩) ?_)
  refine dss_cons (ds_lcIf (i := 4) (own := [("_law_way", 11)]) (stkV dd es) (fun d => d) rfl (blkOk_by (N := nRt) (sc := defScope sRight) (own := [("_law_way", 11)]) (by kernel_rfl)) (di_list (de_v 3)) rfl ?_ (by rw [List.length_map]; exact hcl) fun q => ?_)
  · intro d' hd'
    obtain ⟨c, hc, rfl⟩ := List.mem_map.mp hd'
    have hw := hwy c hc
    have hl := hw.len
    exact ⟨[11], _, _, by simp, fun _ _ _ _ _ => dg_name 11, fun _ _ _ _ _ => dts_one (dt_val (de_callN GL (k' := 6) ⟨g.rm, g.gd⟩ (da_cons (de_v 1) (da_cons (de_v 2) (da_one (de_v 11)))) ⟨dd, es, c, rfl, hN, hw.ne, hw.r, by omega, by
      show D.bl (stuckB dd es (natsOf (c.map nD))) = _
      rw [nats_self]⟩)), rfl, fun _ => ⟨_, fun _ _ _ _ _ => de_v 11, rfl⟩⟩
  rw [due_map]
  refine dss_frz 4 rfl ?_
  refine dss_cons (ds_par (i := 5) (j := 6) (d1 := .lst [nsD dd, esD es]) (d2 := .non) (da_cons (DO.de (do_lst (da_cons (DO.de (do_listL T.list (de_v 1))) (da_one (DO.de (do_listL T.list (de_v 2))))) (by exact (by decide : 2 ≤ sizeLine)))) (da_one de_non)) ?_ rfl rfl)
  refine dss_thenE (fun δ1 => ∃ x7, δ1 = gR p dd es s (.dat (.lst ((cycs es dd.length).map nsD))) (.dat (.lst ((dueL dd es).map nsD))) (.dat (.lst [nsD dd, esD es])) (.dat (optD (stuckC dd es))) x7 .no .no) ?_ ?_
  · cases hs : stuckC dd es with
    | some c =>
      exact ds_tryAs_set (i := 8) (iy := 7) (d := nsD c) (δ1 := gR p dd es s (.dat (.lst ((cycs es dd.length).map nsD))) (.dat (.lst ((dueL dd es).map nsD))) (.dat (.lst [nsD dd, esD es])) (.dat .non) .no .no .no) k.ec rfl rfl M GMx ⟨g.rm, g.gd⟩ k.c.gl (fun pn xe => da_cons (de_v 1) (da_one (de_v 2))) (fun p => ⟨p, dd, es, c, rfl, hN, hs, rfl⟩) 6 ⟨.no, rfl⟩ rfl
    | none =>
      refine ds_tryAs_ok (i := 8) (CF := CF) rfl rfl k.ec.gl fun pn xe => dss_cons (ds_set (X := Cx.tr _ pn xe) 7 (d := Gra C dd es) (de_make (X := Cx.tr _ pn xe) (k := 5) M GMi ⟨g.rm, g.gd⟩ k.c.gl (da_cons (de_v 1) (da_one (de_v 2))) ⟨dd, es, rfl, hN, hs, rfl, rfl⟩) ?_)
      refine dss_cons (ds_if (X := Cx.tr _ pn xe) (m := false) (dt_is (dt_neD (n := 3) (k := 6) (d1 := .lst [nsD dd, esD es, nD dd.length]) (d2 := .lst [nsD dd, esD es, nD dd.length]) ⟨g.rm, g.gd⟩ (DO.de (do_lst (da_cons (DO.de (do_prop k.c.own.cl P1 G1 ⟨g.rm.mono (by decide), g.gd⟩ (de_v 7) ⟨dd, es, rfl, rfl⟩)) (da_cons (DO.de (do_prop k.c.own.cl P2 G2 ⟨g.rm.mono (by decide), g.gd⟩ (de_v 7) ⟨dd, es, rfl, rfl⟩)) (da_one (de_lenO (n := dd.length) P3 G3 ⟨g.rm.mono (by decide), g.gd⟩ T.len (de_v 7) ⟨dd, es, rfl, rfl⟩ (by omega))))) (by exact (by decide : 3 ≤ sizeLine))))
        (de_is (DO.de (do_cat (X := Cx.tr _ pn xe) (ds := [nsD dd, esD es]) (ds2 := [nD dd.length]) (de_v 5) (DO.de (do_lst (da_one (de_is (de_lenL T.len (de_v 1)) (by rw [List.length_map]))) (by exact (by decide : 1 ≤ sizeLine)))) (by exact (by decide : 2 + 1 ≤ 1000000)))) rfl) (okD_three hN) (okD_three hN)) (by rw [eqv_ok (okD_three hN)]; rfl)) (fun h => by cases h) (fun _ => dss_nil (dss_nil ⟨.dat (Gra C dd es), rfl⟩)))
  · rintro δ1 ⟨x7, rfl⟩
    have hdue := due_iff hN.ok
    have okdue : okD 2 (.lst ((dueL dd es).map nsD)) = true := by
      show ((dueL dd es).map nsD).all (okD 1) = true
      rw [List.all_map, List.all_eq_true]
      intro c hc
      have hw := hwy c (List.mem_filter.mp hc).1
      exact okD_ns fun i hi => by
        have := hw.r i hi
        omega
    refine dss_cons (ds_if (m := false) (dt_is (dt_or (m := false) (n := false) (dt_is (dt_nebb (de_isNone (de_v 6)) (de_is (de_eqD (n := 2) g (de_v 4) (DO.de (do_lst da_nil (by exact Nat.zero_le _))) okdue rfl) (congrArg D.bl (eqv_nilAny _)))) ?_) fun _ => dt_is (dt_neD (n := 3) g (DO.de (do_lst (da_cons (de_v 1) (da_one (de_v 2))) (by exact (by decide : 2 ≤ sizeLine)))) (de_v 5) (okD_two hN) (okD_two hN)) (by rw [eqv_ok (okD_two hN)]; rfl)) rfl) (fun h => by cases h) (fun _ => dss_nil ?_))
    · cases hs : stuckC dd es with
      | none =>
        rw [hdue.mp hs]
        rfl
      | some c =>
        cases hl : dueL dd es with
        | nil => rw [hdue.mpr hl] at hs; cases hs
        | cons a l => rfl
    refine dss_cons (ds_if (m := false) (δ1 := gR p dd es s (.dat (.lst ((cycs es dd.length).map nsD))) (.dat (.lst ((dueL dd es).map nsD))) (.dat (.lst [nsD dd, esD es])) (.dat (optD (stuckC dd es))) x7 .no .no) ?_ (fun h => by cases h) (fun _ => dss_nil ?_))
    · cases hs : stuckC dd es with
      | none => exact dt_is (dt_and (m := false) (n := false) (dt_is (dt_notNone (de_v 6)) rfl) fun h => by cases h) rfl
      | some c =>
        have st := stuckC_stuck hN.ok hs
        have hw := st.w hN.ok
        have hr : ∀ i ∈ c, i < es.length := st.cyc.r
        have ev : cycV es (nsD c) = true := by
          rw [cycV_ns st.cyc.ne hr]
          exact (cycB_iff st.cyc.ne hr).mpr st.cyc
        have ok1 : OkV (nsD c) := okV_ns (fun i hi => by have := hr i hi; omega) (by have := hw.len; omega)
        exact dt_is (dt_and (m := true) (n := false) (dt_is (dt_notNone (de_v 6)) rfl) fun _ => dt_is (dt_not (dt_and (m := true) (n := true) (dt_is (dt_val (de_callN GI g (da_cons (de_v 2) (da_one (de_v 6))) ⟨es, nsD c, rfl, hN.esOk, ok1, rfl⟩)) ev) fun _ => dt_is (dt_val (de_callN GL g (da_cons (de_v 1) (da_cons (de_v 2) (da_one (de_v 6)))) ⟨dd, es, c, rfl, hN, st.cyc.ne, hr, by have := hw.len; omega, rfl⟩)) ((stuckB_iff st.cyc).mpr st))) rfl) rfl
    obtain ⟨hdv, hok⟩ := vals_ok (m := es.length) (cs := cycs es dd.length) (s := s) (by omega) hwy hd
    refine dss_cons (ds_for (di_list (items := vals es.length (cycs es dd.length) s) (de_callHN (hs1 := s.ds) (δ1 := gR p dd es s (.dat (.lst ((cycs es dd.length).map nsD))) (.dat (.lst ((dueL dd es).map nsD))) (.dat (.lst [nsD dd, esD es])) (.dat (optD (stuckC dd es))) x7 .no .no) 0 GV g rfl (da_cons (de_v 2) (da_one (de_v 3))) rfl ⟨n, s, es, cycs es dd.length, rfl, rfl, hd, by omega, by omega, hwy, rfl, rfl⟩))
      (fun i δ => ∃ x9 x10, δ = gR p dd es (vlB es.length (cycs es dd.length) s).2 (.dat (.lst ((cycs es dd.length).map nsD))) (.dat (.lst ((dueL dd es).map nsD))) (.dat (.lst [nsD dd, esD es])) (.dat (optD (stuckC dd es))) x7 x9 x10) ⟨.no, .no, rfl⟩ ?_ ?_)
    · rintro i v δ2 hi ⟨x9, x10, rfl⟩
      have okv : OkV v := hok v (List.mem_of_getElem? hi)
      refine ⟨[9], gR p dd es (vlB es.length (cycs es dd.length) s).2 (.dat (.lst ((cycs es dd.length).map nsD))) (.dat (.lst ((dueL dd es).map nsD))) (.dat (.lst [nsD dd, esD es])) (.dat (optD (stuckC dd es))) x7 (.dat v) x10, dg_name 9, ?_⟩
      refine dss_cons (ds_set 10 (d := .bl (goodV dd es v)) (δ1 := gR p dd es (vlB es.length (cycs es dd.length) s).2 (.dat (.lst ((cycs es dd.length).map nsD))) (.dat (.lst ((dueL dd es).map nsD))) (.dat (.lst [nsD dd, esD es])) (.dat (optD (stuckC dd es))) x7 (.dat v) x10) (de_and (m := cycV es v) (n := stuckB dd es (natsD v)) (de_callN GI g (da_cons (de_v 2) (da_one (de_v 9))) ⟨es, v, rfl, hN.esOk, okv, rfl⟩) fun hm => de_one (de_callN GL g (da_cons (de_v 1) (da_cons (de_v 2) (da_one (de_is (de_v 9) (cycV_cyc hm).1)))) ⟨dd, es, natsD v, rfl, hN, (cycV_cyc hm).2.ne, (cycV_cyc hm).2.r, by
        have z := (okv.l _ (cycV_cyc hm).1).1
        rw [List.length_map] at z
        exact z, rfl⟩)) ?_)
      exact dss_cons (ds_if (m := false) (dt_is (dt_nes (de_repr (n := 0) g T.repr (de_callN GS g (da_cons (de_v 1) (da_cons (de_v 2) (da_one (de_v 9)))) ⟨dd, es, v, rfl, hN, okv, rfl⟩) rfl (by decide) (by exact (by decide : 5 ≤ 16000000))) (de_repr (n := 0) g T.repr (de_v 10) rfl (by decide) (by exact (by decide : 5 ≤ 16000000)))) (by rw [decide_eq_true rfl]; rfl)) (fun h => by cases h) (fun _ => dss_nil (dss_nil ⟨.dat v, .dat (.bl (goodV dd es v)), rfl⟩)))
    · rintro δ2 ⟨x9, x10, rfl⟩
      exact dss_cons (ds_ret de_bl ⟨rfl, rfl⟩)
end
end Gr

/-! part Hx9 -/
set_option pp.maxSteps 400
namespace Gr
open PySem PySem.Spec PyProof.Rows L2 Dy Kk
theorem dt_andT {X : Cx} {a b : Expr} {δ δ1 δ2 : List Sl} {pos : Pos} {r : Bool} (ha : DT X a δ true δ1) (hb : DT X b δ1 r δ2) : DT X (.BoolOp .And [a, b] pos) δ r δ2 := fun F R H σ Q s k =>
  (PW.pt (pw_and ptW (pw_and1 ptW))).w (ha F R H σ _ s fun R1 H1 t1 s1 => by
    rw [if_pos rfl]
    exact hb F R1 H1 σ _ s1 fun R2 H2 t2 s2 => k R2 H2 (t1.trans t2) s2)
abbrev esX : List Ed := [⟨0, 1, "enter"⟩, ⟨1, 0, "leave"⟩]
abbrev esY : List Ed := [⟨0, 0, "round"⟩]
theorem netX : Net [1, 2] esX := ⟨by decide, by decide, by decide, by decide, fun x hx => by
  simp only [List.mem_cons, List.not_mem_nil, or_false] at hx
  rcases hx with rfl | rfl
  · exact ⟨by decide, by decide, .enter, rfl, by decide⟩
  · exact ⟨by decide, by decide, .leave, rfl, by decide⟩⟩
theorem netY : Net [2] esY := ⟨by decide, by decide, by decide, by decide, fun x hx => by
  rw [List.mem_singleton.mp hx]
  exact ⟨by decide, by decide, .round, rfl, by decide⟩⟩
theorem goodX : goodV [1, 2] esX (nsD [1, 0]) = true := by decide +kernel
theorem goodY : goodV [2] esY (nsD [0]) = false := by decide +kernel
section
variable {P : Program} {w : World} {K : PySem.W.Frag} {mg : Str → Option Value} {base : Heap} {f : Addr} {fd : FuncData}
abbrev nLw : List Str := ["_law_script", "_law_spring_here", "_law_turn", "_law_depths", "_law_edges", "_law_there"]
theorem h_sc21 : FnScope nLw ["_law_script"] (defScope sLaw) := ⟨rfl, rfl, rfl, by decide +kernel, rfl, by decide +kernel, by decide +kernel⟩
abbrev cLawC : List D → D → Prop := fun ds d => ∃ ns : List Int, ds = [.rol (ns.map D.int)] ∧ ns.length ≤ 63 ∧ d = .bl true
theorem right_hd {s : S} {n : Nat} {dd : List Nat} {es : List Ed} (hd : Hd n s) (hN : Net dd es) (h14 : dd.length ≤ 14) : Hd (n + 40) (vlB es.length (cycs es dd.length) s).2 :=
  (vals_ok (m := es.length) (cs := cycs es dd.length) (s := s) hN.m (fun w hw => cyc_wy h14 (fun i hi => hN.ok.edB hi) hw) hd).1
theorem law_lawC (F : Df K mg "law" sLaw f fd) (T : Txt mg) (GP : Gn P w K mg base "_law_spring" 1 (spO K Sp.cCoil)) (GN : Gn P w K mg base "_law_network" 2 (spH K cNetw)) (GR : Gn P w K mg base "_law_right" 7 (spH K cRightK)) (GS : Gn P w K mg base "is_stuck" 5 (spP K cIsStuckG)) : FnG P w K mg base CX0 8 f (spP K cLawC) := by
  refine fn_pure F.fn h_sc21 (F.fn.binds fun _ _ _ _ _ _ us hl => match us, hl with | [_], _ => rfl) (by rintro ds d ⟨ns, rfl, _⟩; rfl) (by decide) fun cdv A outer s0 H E ds d g ⟨ns, e, hn, e'⟩ => ?_
  subst e e'
  have nd := h_sc21.nd
  refine dss_cons (ds_setO 1 (do_callN GP g (da_one (de_v 0)) ⟨ns, rfl, hn, rfl⟩) fun r => ?_)
  refine dss_cons (ds_for (di_range1 rfl T.range (da_one (de_mul (mul_small (by decide +kernel) (by omega)) de_int (de_add de_int (de_min2 T.min (da_cons de_int (da_one (de_lenR T.len (de_v 0)))))))) (by omega))
    (fun i δ => ∃ s x2 x3 x4, Hd (1000 * i) s ∧ δ = [.dat (.rol (ns.map D.int)), .own r s.ds, x2, x3, x4, .no]) ⟨_, .no, .no, .no, Sp.coil_hd ns hn, rfl⟩ ?_ ?_)
  · rintro i d δ2 hi ⟨s, x2, x3, x4, hs, rfl⟩
    have hlt := (List.getElem?_eq_some_iff.mp hi).1
    rw [List.length_map, List.length_range] at hlt
    have hi25 : i < 25 := by omega
    have hdd : d = nD i := by
      rw [List.getElem?_map, List.getElem?_range (by omega)] at hi
      exact (Option.some.inj hi).symm
    subst hdd
    refine ⟨[2], [.dat (.rol (ns.map D.int)), .own r s.ds, .dat (nD i), x3, x4, .no], dg_name 2, ?_⟩
    obtain ⟨h1, N1, l1, m1⟩ := netw_ok (most := 6) (many := 9) hs (by decide) (by decide) (by decide)
    obtain ⟨dd, edd⟩ : ∃ x, (nwD s 6).1 = x := ⟨_, rfl⟩
    obtain ⟨es, ees⟩ : ∃ x, (nwE s 6 9).1 = x := ⟨_, rfl⟩
    obtain ⟨s1, es1⟩ : ∃ x, (nwE s 6 9).2 = x := ⟨_, rfl⟩
    refine dss_cons (ds_asg (ws := [3] ++ ([4] ++ [])) (d := .tup [nsD dd, esD es]) (δ1 := [.dat (.rol (ns.map D.int)), .own r s1.ds, .dat (nD i), x3, x4, .no]) (de_callHN (hs := s.ds) (hs1 := s.ds) (δ1 := [.dat (.rol (ns.map D.int)), .own r s.ds, .dat (nD i), x3, x4, .no]) 1 GN g rfl (da_cons de_int (da_one de_int)) rfl ⟨_, s, 6, 9, rfl, rfl, hs, by omega, by decide, by decide, by decide, by rw [edd, ees], by rw [es1]⟩) (dg_tup (dgs_cons (dg_name 3) (dgs_cons (dg_name 4) dgs_nil))) ?_)
    rw [edd] at N1 l1
    rw [ees] at N1 m1
    rw [es1] at h1
    clear edd ees es1
    have h2 := right_hd h1 N1 (by omega)
    refine dss_cons (ds_if (m := false) (δ1 := [.dat (.rol (ns.map D.int)), .own r (vlB es.length (cycs es dd.length) s1).2.ds, .dat (nD i), .dat (nsD dd), .dat (esD es), .no]) (dt_is (dt_not (dt_val (de_callHN 1 GR g rfl (da_cons (de_v 3) (da_one (de_v 4))) rfl ⟨_, s1, dd, es, rfl, rfl, h1, by omega, N1, by omega, by omega, rfl, rfl⟩))) rfl) (fun h => by cases h) (fun _ => dss_nil ?_))
    obtain ⟨s2, es2⟩ : ∃ x, (vlB es.length (cycs es dd.length) s1).2 = x := ⟨_, rfl⟩
    rw [es2] at h2 ⊢
    clear es2 h1 N1 l1 m1 hs
    obtain ⟨h3, N3, l3, m3⟩ := netw_ok (most := 14) (many := 16) h2 (by decide) (by decide) (by decide)
    obtain ⟨dd3, edd⟩ : ∃ x, (nwD s2 14).1 = x := ⟨_, rfl⟩
    obtain ⟨es3, ees⟩ : ∃ x, (nwE s2 14 16).1 = x := ⟨_, rfl⟩
    obtain ⟨s3, es1⟩ : ∃ x, (nwE s2 14 16).2 = x := ⟨_, rfl⟩
    refine dss_cons (ds_asg (ws := [3] ++ ([4] ++ [])) (d := .tup [nsD dd3, esD es3]) (δ1 := [.dat (.rol (ns.map D.int)), .own r s3.ds, .dat (nD i), .dat (nsD dd), .dat (esD es), .no]) (de_callHN (hs := s2.ds) (hs1 := s2.ds) (δ1 := [.dat (.rol (ns.map D.int)), .own r s2.ds, .dat (nD i), .dat (nsD dd), .dat (esD es), .no]) 1 GN g rfl (da_cons de_int (da_one de_int)) rfl ⟨_, s2, 14, 16, rfl, rfl, h2, by omega, by decide, by decide, by decide, by rw [edd, ees], by rw [es1]⟩) (dg_tup (dgs_cons (dg_name 3) (dgs_cons (dg_name 4) dgs_nil))) ?_)
    rw [edd] at N3 l3
    rw [ees] at N3 m3
    rw [es1] at h3
    clear edd ees es1
    have h4 := right_hd h3 N3 (by omega)
    by_cases c : (i : Int) % 3 = 0
    · exact dss_cons (ds_if (m := false) (δ1 := [.dat (.rol (ns.map D.int)), .own r (vlB es3.length (cycs es3 dd3.length) s3).2.ds, .dat (nD i), .dat (nsD dd3), .dat (esD es3), .no]) (dt_andT (dt_is (dt_eqi (de_mod (by decide) (de_v 2) de_int) de_int) (decide_eq_true c)) (dt_is (dt_not (dt_val (de_callHN 1 GR g rfl (da_cons (de_v 3) (da_one (de_v 4))) rfl ⟨_, s3, dd3, es3, rfl, rfl, h3, by omega, N3, by omega, by omega, rfl, rfl⟩))) rfl)) (fun h => by cases h) (fun _ => dss_nil (dss_nil ⟨_, .dat (nD i), .dat (nsD dd3), .dat (esD es3), Hd.mono h4 (by omega), rfl⟩)))
    · exact dss_cons (ds_if (m := false) (δ1 := [.dat (.rol (ns.map D.int)), .own r s3.ds, .dat (nD i), .dat (nsD dd3), .dat (esD es3), .no]) (dt_is (dt_and (m := false) (n := false) (dt_is (dt_eqi (de_mod (by decide) (de_v 2) de_int) de_int) (decide_eq_false c)) fun h => by cases h) rfl) (fun h => by cases h) (fun _ => dss_nil (dss_nil ⟨_, .dat (nD i), .dat (nsD dd3), .dat (esD es3), Hd.mono h3 (by omega), rfl⟩)))
  · rintro δ2 ⟨s, x2, x3, x4, hs, rfl⟩
    have okx : OkV (nsD [1, 0]) := okV_ns (by decide) (by decide)
    have oky : OkV (nsD [0]) := okV_ns (by decide) (by decide)
    refine dss_cons (ds_set 5 (d := esD esX) (DO.de (do_lst (da_cons (de_tup (da_cons de_int (da_cons de_int (da_one de_str))) (by exact (by decide : 3 ≤ sizeLine))) (da_one (de_tup (da_cons de_int (da_cons de_int (da_one de_str))) (by exact (by decide : 3 ≤ sizeLine))))) (by exact (by decide : 2 ≤ sizeLine)))) ?_)
    refine dss_cons (ds_ret (d := .bl true) (de_and (m := true) (n := true) (de_is (de_callN GS (k' := 7) (ds := [nsD [1, 2], esD esX, nsD [1, 0]]) (d := .bl (goodV [1, 2] esX (nsD [1, 0]))) g (da_cons (DO.de (do_lst (ds := [nD 1, nD 2]) (da_cons de_int (da_one de_int)) (by exact (by decide : 2 ≤ sizeLine)))) (da_cons (de_v 5) (da_one (DO.de (do_lst (ds := [nD 1, nD 0]) (da_cons de_int (da_one de_int)) (by exact (by decide : 2 ≤ sizeLine))))))) ⟨[1, 2], esX, nsD [1, 0], rfl, netX, okx, rfl⟩) (by rw [goodX]))
      fun _ => de_one (de_is (de_not (de_callN GS (k' := 7) (ds := [nsD [2], esD esY, nsD [0]]) (d := .bl (goodV [2] esY (nsD [0]))) g (da_cons (DO.de (do_lst (ds := [nD 2]) (da_one de_int) (by exact (by decide : 1 ≤ sizeLine)))) (da_cons (DO.de (do_lst (ds := [eD ⟨0, 0, "round"⟩]) (da_one (de_tup (da_cons de_int (da_cons de_int (da_one de_str))) (by exact (by decide : 3 ≤ sizeLine)))) (by exact (by decide : 1 ≤ sizeLine)))) (da_one (DO.de (do_lst (ds := [nD 0]) (da_one de_int) (by exact (by decide : 1 ≤ sizeLine))))))) ⟨[2], esY, nsD [0], rfl, netY, oky, rfl⟩)) (by rw [goodY]; rfl))) rfl)
end
end Gr

/-! part Gw19 -/
set_option pp.maxSteps 400
namespace Gr
open PySem PySem.Spec PySem.Calls PyProof.Rows L2 Dy Kk
section
variable {P : Program} {w : World} {K : PySem.W.Frag} {mg : Str → Option Value} {base : Heap} {V fI cda cc : Addr}
theorem exm_self {S : Addr} (sb : PySem.W.subIn K (.ref S) (.type "BaseException") = some true) (cl : PySem.W.isClsIn K S = true) (ty : PySem.W.typeIn K (.ref S) = some (.type "type")) (ss : PySem.W.subIn K (.ref S) (.ref S) = some true) : PySem.W.exmOne K (.ref S) (.ref S) = some true := by
  have e1 : (PySem.W.subIn K (.ref S) (.type "BaseException") == some true) = true := by rw [sb] <;> rfl
  have e2 : ((PySem.W.clsIn K S).isSome && PySem.W.typeIn K (.ref S) == some (.type "type")) = true := by
    have h2' : (PySem.W.clsIn K S).isSome = true := cl
    rw [h2', ty] <;> rfl
  show (if (PySem.W.subIn K (.ref S) (.type "BaseException") == some true) = true then (if ((PySem.W.clsIn K S).isSome && PySem.W.typeIn K (.ref S) == some (.type "type")) = true then PySem.W.subIn K (.ref S) (.ref S) else none) else none) = some true
  rw [if_pos e1, if_pos e2]
  exact ss
theorem stuckCycle_mk {nm q : Str} {N : Addr} {bs bm : List Value} {sn : List Str} {sub : List Value} {ab : Bool} {col : Option Bool} {dd : Option Addr} {k0 k1 k2 k3 k5 : Option Value} {kV doc pm ct oc : Value} {an od : Option Addr} {osl : Array (Option Value)} {ccl : Value} {cdd : Option Addr} {vs : Array Value} {ccs : Array (Option Value)} {file : Str} {tf : Tok} {cl cld} {csl}
    (gl : mg "StuckCycle" = some (.ref V)) (lkC : K.lookup V = some (excClassObj nm q V N bs bm true sn sub ab col dd k0 k1 k2 k3 k5 "ValueError.__new__")) (rv : PySem.HandSPX.refsVE bm = true)
    (sa : PySem.W.findIn K (.ref V) "__setattr__" = some (some (.builtin "object.__setattr__"))) (sb : PySem.W.subIn K (.ref V) (.type "BaseException") = some true) (ty : PySem.W.typeIn K (.ref V) = some (.type "type")) (kp : PySem.W.keepIn K (.ref V) = true)
    (ic : PySem.W.isClsIn K V = true) (ss : PySem.W.subIn K (.ref V) (.ref V) = some true)
    (fi : PySem.W.findIn K (.ref V) "__init__" = some (some (.ref fI))) (tfI : PySem.W.typeIn K (.ref fI) = some (.type "function"))
    (lkI : K.lookup fI = some ⟨oc, od, .func (PySem.W.ksFn "__init__" "StuckCycle.__init__" (defArgs sStuckI) (defBody sStuckI) (defScope sStuckI) .none kV doc pm an (.ref cda) ct cc), osl⟩)
    (cd : PySem.W.codeIn K (.ref cda) "StuckCycle.__init__" = true) (lkD : K.lookup cda = some ⟨ccl, cdd, .fields vs, ccs⟩) (vs2 : vs[2]? = some (.str file tf)) (hf : ((P.main.file : Str) == file) = true)
    (lkL : K.lookup cc = some ⟨cl, cld, .cell (some (.ref V)), csl⟩) (mr : PySem.W.mroIn K V (.ref V) = some true) (si : PySem.W.ks_superIn K V V "__init__" = some (some (.builtin "ValueError.__init__"))) (ve : PySem.W.subIn K (.ref V) (.type "ValueError") = some true)
    (op : PySem.W.nsIn K PySem.cStatics "thirdparty.any" = some none) (top : (P.main.scope.names.lookup ("super" : Str)).isSome = false) (hsu : mg "super" = none) (no : PySem.W.findIn K (.ref V) "cycle" = some none)
    (ga : PySem.W.findIn K (.ref V) "__getattribute__" = some (some (.builtin "BaseException.__getattribute__"))) (gg : PySem.W.findIn K (.ref V) "__getattr__" = some none) (hd : PySem.W.hasDictIn K V = true) : ExcF P w K mg base "StuckCycle" V "cycle" := by
  have T : OexC K V := ⟨⟨nm, q, N, bs, bm, sn, sub, ab, col, dd, k0, k1, k2, k3, k5, lkC, rv⟩, sa, sb, ty, kp⟩
  have S : SupF P K V fI cda cc (PySem.W.ksFn "__init__" "StuckCycle.__init__" (defArgs sStuckI) (defBody sStuckI) (defScope sStuckI) .none kV doc pm an (.ref cda) ct cc) :=
    ⟨⟨ccl, cdd, vs, ccs, file, tf, lkD, vs2, hf⟩, ⟨cl, cld, csl, lkL⟩, mr, si, ve, op, top⟩
  refine ⟨gl, T, ⟨fI, _, "cycle", fi, tfI, fn_super (x := "cycle") (fl := "cycle") S T lkI cd hsu no rfl rfl rfl (by decide) rfl rfl rfl rfl (by decide +kernel) rfl rfl rfl (by decide) (fun _ => rfl) (fun _ => rfl) (fun _ => rfl), Binds.all fun us hl => match us, hl with | [_, _], _ => rfl⟩, ⟨ga, gg, sb, hd⟩, no, exm_self sb ic ty ss⟩
end
end Gr

/-! part Hxa -/
namespace Gr
open PySem PySem.Spec PyProof.Rows L2 Dy Bs Kk
theorem all_mk {P : Program} {w : World} {K : PySem.W.Frag} {h : Heap} {mg : Str → Option Value} {fa f1 f2 f3 f4 f5 f6 f7 f8 f9 f10 f11 f12 f13 f14 f15 f16 f17 f18 fCi fCp0 fCp1 fCs0 C V fV cdaV ccV NXV paCp0 paCp1 : Addr} (X : K.In h) (G : h.Ns mainGlobals mg) (hfa : mg "law" = some (.ref fa))
    {od1 an1 od2 an2 od3 an3 od4 an4 od5 an5 od6 an6 od7 an7 od8 an8 od9 an9 od10 an10 od11 an11 od12 an12 od13 an13 od14 an14 od15 an15 od16 an16 od17 an17 od18 an18 odCi anCi odCp0 anCp0 odCp1 anCp1 odCs0 anCs0 : Option Addr} {sl1 sl2 sl3 sl4 sl5 sl6 sl7 sl8 sl9 sl10 sl11 sl12 sl13 sl14 sl15 sl16 sl17 sl18 slCi slCp0 slCp1 slCs0 : Array (Option Value)} {oc1 kV1 dc1 pm1 cd1 ct1 oc2 kV2 dc2 pm2 cd2 ct2 oc3 kV3 dc3 pm3 cd3 ct3 oc4 kV4 dc4 pm4 cd4 ct4 oc5 kV5 dc5 pm5 cd5 ct5 oc6 kV6 dc6 pm6 cd6 ct6 oc7 kV7 dc7 pm7 cd7 ct7 oc8 kV8 dc8 pm8 cd8 ct8 oc9 kV9 dc9 pm9 cd9 ct9 oc10 kV10 dc10 pm10 cd10 ct10 oc11 kV11 dc11 pm11 cd11 ct11 oc12 kV12 dc12 pm12 cd12 ct12 oc13 kV13 dc13 pm13 cd13 ct13 oc14 kV14 dc14 pm14 cd14 ct14 oc15 kV15 dc15 pm15 cd15 ct15 oc16 kV16 dc16 pm16 cd16 ct16 oc17 kV17 dc17 pm17 cd17 ct17 oc18 kV18 dc18 pm18 cd18 ct18 ocCi kVCi dcCi pmCi cdCi ctCi ocCp0 kVCp0 dcCp0 pmCp0 cdCp0 ctCp0 ocCp1 kVCp1 dcCp1 pmCp1 cdCp1 ctCp1 ocCs0 kVCs0 dcCs0 pmCs0 cdCs0 ctCs0 : Value} {reCp0 reCp1 : List Value}
    (a1 : PySem.W.nsIn K mainGlobals "is_number" = some (some (.ref f1))) (l1 : K.lookup f1 = some ⟨oc1, od1, .func (PySem.W.fnOf "is_number" "is_number" (defArgs sIsNum) (defBody sIsNum) (defScope sIsNum) .none kV1 dc1 pm1 an1 cd1 ct1), sl1⟩) (c1 : PySem.W.codeIn K cd1 "is_number" = true) (k1 : PySem.W.keepIn K (.ref f1) = true)
    (a2 : PySem.W.nsIn K mainGlobals "fits" = some (some (.ref f2))) (l2 : K.lookup f2 = some ⟨oc2, od2, .func (PySem.W.fnOf "fits" "fits" (defArgs sFits) (defBody sFits) (defScope sFits) .none kV2 dc2 pm2 an2 cd2 ct2), sl2⟩) (c2 : PySem.W.codeIn K cd2 "fits" = true) (k2 : PySem.W.keepIn K (.ref f2) = true)
    (a3 : PySem.W.nsIn K mainGlobals "is_edge" = some (some (.ref f3))) (l3 : K.lookup f3 = some ⟨oc3, od3, .func (PySem.W.fnOf "is_edge" "is_edge" (defArgs sIsEdge) (defBody sIsEdge) (defScope sIsEdge) .none kV3 dc3 pm3 an3 cd3 ct3), sl3⟩) (c3 : PySem.W.codeIn K cd3 "is_edge" = true) (k3 : PySem.W.keepIn K (.ref f3) = true)
    (a4 : PySem.W.nsIn K mainGlobals "is_network" = some (some (.ref f4))) (l4 : K.lookup f4 = some ⟨oc4, od4, .func (PySem.W.fnOf "is_network" "is_network" (defArgs sIsNet) (defBody sIsNet) (defScope sIsNet) .none kV4 dc4 pm4 an4 cd4 ct4), sl4⟩) (c4 : PySem.W.codeIn K cd4 "is_network" = true) (k4 : PySem.W.keepIn K (.ref f4) = true)
    (a5 : PySem.W.nsIn K mainGlobals "require_network" = some (some (.ref f5))) (l5 : K.lookup f5 = some ⟨oc5, od5, .func (PySem.W.fnOf "require_network" "require_network" (defArgs sReqNet) (defBody sReqNet) (defScope sReqNet) .none kV5 dc5 pm5 an5 cd5 ct5), sl5⟩) (c5 : PySem.W.codeIn K cd5 "require_network" = true) (k5 : PySem.W.keepIn K (.ref f5) = true)
    (a6 : PySem.W.nsIn K mainGlobals "cycle_through" = some (some (.ref f6))) (l6 : K.lookup f6 = some ⟨oc6, od6, .func (PySem.W.fnOf "cycle_through" "cycle_through" (defArgs sCycThr) (defBody sCycThr) (defScope sCycThr) .none kV6 dc6 pm6 an6 cd6 ct6), sl6⟩) (c6 : PySem.W.codeIn K cd6 "cycle_through" = true) (k6 : PySem.W.keepIn K (.ref f6) = true)
    (a7 : PySem.W.nsIn K mainGlobals "stuck_cycle" = some (some (.ref f7))) (l7 : K.lookup f7 = some ⟨oc7, od7, .func (PySem.W.fnOf "stuck_cycle" "stuck_cycle" (defArgs sStuckC) (defBody sStuckC) (defScope sStuckC) .none kV7 dc7 pm7 an7 cd7 ct7), sl7⟩) (c7 : PySem.W.codeIn K cd7 "stuck_cycle" = true) (k7 : PySem.W.keepIn K (.ref f7) = true)
    (a8 : PySem.W.nsIn K mainGlobals "is_cycle" = some (some (.ref f8))) (l8 : K.lookup f8 = some ⟨oc8, od8, .func (PySem.W.fnOf "is_cycle" "is_cycle" (defArgs sIsCyc) (defBody sIsCyc) (defScope sIsCyc) .none kV8 dc8 pm8 an8 cd8 ct8), sl8⟩) (c8 : PySem.W.codeIn K cd8 "is_cycle" = true) (k8 : PySem.W.keepIn K (.ref f8) = true)
    (a9 : PySem.W.nsIn K mainGlobals "is_stuck" = some (some (.ref f9))) (l9 : K.lookup f9 = some ⟨oc9, od9, .func (PySem.W.fnOf "is_stuck" "is_stuck" (defArgs sIsStuck) (defBody sIsStuck) (defScope sIsStuck) .none kV9 dc9 pm9 an9 cd9 ct9), sl9⟩) (c9 : PySem.W.codeIn K cd9 "is_stuck" = true) (k9 : PySem.W.keepIn K (.ref f9) = true)
    (a10 : PySem.W.nsIn K mainGlobals "_law_spring" = some (some (.ref f10))) (l10 : K.lookup f10 = some ⟨oc10, od10, .func (PySem.W.fnOf "_law_spring" "_law_spring" (defArgs sSpring) (defBody sSpring) (defScope sSpring) .none kV10 dc10 pm10 an10 cd10 ct10), sl10⟩) (c10 : PySem.W.codeIn K cd10 "_law_spring" = true) (k10 : PySem.W.keepIn K (.ref f10) = true)
    (a11 : PySem.W.nsIn K mainGlobals "_law_draw" = some (some (.ref f11))) (l11 : K.lookup f11 = some ⟨oc11, od11, .func (PySem.W.fnOf "_law_draw" "_law_draw" (defArgs sDraw) (defBody sDraw) (defScope sDraw) .none kV11 dc11 pm11 an11 cd11 ct11), sl11⟩) (c11 : PySem.W.codeIn K cd11 "_law_draw" = true) (k11 : PySem.W.keepIn K (.ref f11) = true)
    (a12 : PySem.W.nsIn K mainGlobals "_law_network" = some (some (.ref f12))) (l12 : K.lookup f12 = some ⟨oc12, od12, .func (PySem.W.fnOf "_law_network" "_law_network" (defArgs sLNet) (defBody sLNet) (defScope sLNet) .none kV12 dc12 pm12 an12 cd12 ct12), sl12⟩) (c12 : PySem.W.codeIn K cd12 "_law_network" = true) (k12 : PySem.W.keepIn K (.ref f12) = true)
    (a13 : PySem.W.nsIn K mainGlobals "_law_cycles" = some (some (.ref f13))) (l13 : K.lookup f13 = some ⟨oc13, od13, .func (PySem.W.fnOf "_law_cycles" "_law_cycles" (defArgs sLCycs) (defBody sLCycs) (defScope sLCycs) .none kV13 dc13 pm13 an13 cd13 ct13), sl13⟩) (c13 : PySem.W.codeIn K cd13 "_law_cycles" = true) (k13 : PySem.W.keepIn K (.ref f13) = true)
    (a14 : PySem.W.nsIn K mainGlobals "_law_is_stuck" = some (some (.ref f14))) (l14 : K.lookup f14 = some ⟨oc14, od14, .func (PySem.W.fnOf "_law_is_stuck" "_law_is_stuck" (defArgs sLStuck) (defBody sLStuck) (defScope sLStuck) .none kV14 dc14 pm14 an14 cd14 ct14), sl14⟩) (c14 : PySem.W.codeIn K cd14 "_law_is_stuck" = true) (k14 : PySem.W.keepIn K (.ref f14) = true)
    (a15 : PySem.W.nsIn K mainGlobals "_law_is_cycle" = some (some (.ref f15))) (l15 : K.lookup f15 = some ⟨oc15, od15, .func (PySem.W.fnOf "_law_is_cycle" "_law_is_cycle" (defArgs sLCyc) (defBody sLCyc) (defScope sLCyc) .none kV15 dc15 pm15 an15 cd15 ct15), sl15⟩) (c15 : PySem.W.codeIn K cd15 "_law_is_cycle" = true) (k15 : PySem.W.keepIn K (.ref f15) = true)
    (a16 : PySem.W.nsIn K mainGlobals "_law_values" = some (some (.ref f16))) (l16 : K.lookup f16 = some ⟨oc16, od16, .func (PySem.W.fnOf "_law_values" "_law_values" (defArgs sLVals) (defBody sLVals) (defScope sLVals) .none kV16 dc16 pm16 an16 cd16 ct16), sl16⟩) (c16 : PySem.W.codeIn K cd16 "_law_values" = true) (k16 : PySem.W.keepIn K (.ref f16) = true)
    (a17 : PySem.W.nsIn K mainGlobals "_law_right" = some (some (.ref f17))) (l17 : K.lookup f17 = some ⟨oc17, od17, .func (PySem.W.fnOf "_law_right" "_law_right" (defArgs sRight) (defBody sRight) (defScope sRight) .none kV17 dc17 pm17 an17 cd17 ct17), sl17⟩) (c17 : PySem.W.codeIn K cd17 "_law_right" = true) (k17 : PySem.W.keepIn K (.ref f17) = true)
    (a18 : PySem.W.nsIn K mainGlobals "law" = some (some (.ref f18))) (l18 : K.lookup f18 = some ⟨oc18, od18, .func (PySem.W.fnOf "law" "law" (defArgs sLaw) (defBody sLaw) (defScope sLaw) .none kV18 dc18 pm18 an18 cd18 ct18), sl18⟩) (c18 : PySem.W.codeIn K cd18 "law" = true) (k18 : PySem.W.keepIn K (.ref f18) = true)
    (gC : PySem.W.nsIn K mainGlobals "Graph" = some (some (.ref C)))
    (pgC : PySem.W.plainGet K C Str.empty = true)
    (hdC : PySem.W.hasDictIn K C = true)
    (poC : PySem.W.plainOver K C = true)
    (saC : PySem.W.findIn K (.ref C) "__setattr__" = some (some (.builtin "object.__setattr__")))
    (haC : PySem.W.findIn K (.ref C) "__class__" = some (some (.builtin "object.__class__")))
    (hmC : PySem.W.mroIn K C (.type "object") = some true)
    (icC : PySem.W.isClsIn K C = true)
    (tyC : PySem.W.typeIn K (.ref C) = some (.type "type"))
    (mkC : PySem.W.makesIn K C = true)
    (kcC : PySem.W.keepIn K (.ref C) = true)
    (nC_depth_row : PySem.W.findIn K (.ref C) "depth_row" = some none)
    (nC_edge_row : PySem.W.findIn K (.ref C) "edge_row" = some none)
    (hn : PySem.W.specialIn K (.builtin "object.__class__") "__get__" = some (some (.builtin "getset_descriptor.__get__"))) (htk : PySem.W.takesIn K (.builtin "object.__class__") = some true)
    {nmV qnV : Str} {bsV bmV suV : List Value} {snV : List Str} {abV : Bool} {coV : Option Bool} {ddV oxV axV cxV lxV : Option Addr} {k0V k1V k2V k3V k5V : Option Value} {kVV dcV pmV ctV ocV cqV llV : Value} {slV scV sdV : Array (Option Value)} {vaV : Array Value} {fiV : Str} {tfV : Tok}
    (xgV : PySem.W.nsIn K mainGlobals "StuckCycle" = some (some (.ref V)))
    (xlkCV : K.lookup V = some (PySem.excClassObj nmV qnV V NXV bsV bmV true snV suV abV coV ddV k0V k1V k2V k3V k5V "ValueError.__new__"))
    (xrvV : PySem.HandSPX.refsVE bmV = true)
    (xsaV : PySem.W.findIn K (.ref V) "__setattr__" = some (some (.builtin "object.__setattr__")))
    (xsbV : PySem.W.subIn K (.ref V) (.type "BaseException") = some true)
    (xtyV : PySem.W.typeIn K (.ref V) = some (.type "type"))
    (xkpV : PySem.W.keepIn K (.ref V) = true)
    (xicV : PySem.W.isClsIn K V = true)
    (xssV : PySem.W.subIn K (.ref V) (.ref V) = some true)
    (xfiV : PySem.W.findIn K (.ref V) "__init__" = some (some (.ref fV)))
    (xtIV : PySem.W.typeIn K (.ref fV) = some (.type "function"))
    (xlkIV : K.lookup fV = some ⟨ocV, oxV, .func (PySem.W.ksFn "__init__" "StuckCycle.__init__" (defArgs sStuckI) (defBody sStuckI) (defScope sStuckI) .none kVV dcV pmV axV (.ref cdaV) ctV ccV), slV⟩)
    (xcdV : PySem.W.codeIn K (.ref cdaV) "StuckCycle.__init__" = true)
    (xlkDV : K.lookup cdaV = some ⟨cqV, cxV, .fields vaV, scV⟩)
    (xv2V : vaV[2]? = some (.str fiV tfV))
    (xhfV : ((P.main.file : Str) == fiV) = true)
    (xlkLV : K.lookup ccV = some ⟨llV, lxV, .cell (some (.ref V)), sdV⟩)
    (xmrV : PySem.W.mroIn K V (.ref V) = some true)
    (xsiV : PySem.W.ks_superIn K V V "__init__" = some (some (.builtin "ValueError.__init__")))
    (xveV : PySem.W.subIn K (.ref V) (.type "ValueError") = some true)
    (xopV : PySem.W.nsIn K PySem.cStatics "thirdparty.any" = some none)
    (xtpV : (P.main.scope.names.lookup ("super" : Str)).isSome = false)
    (xhsV : PySem.W.nsIn K mainGlobals "super" = some none)
    (xnoV : PySem.W.findIn K (.ref V) "cycle" = some none)
    (xgaV : PySem.W.findIn K (.ref V) "__getattribute__" = some (some (.builtin "BaseException.__getattribute__")))
    (xggV : PySem.W.findIn K (.ref V) "__getattr__" = some none)
    (xhxV : PySem.W.hasDictIn K V = true)
    (aCi : PySem.W.findIn K (.ref C) "__init__" = some (some (.ref fCi))) (lCi : K.lookup fCi = some ⟨ocCi, odCi, .func (PySem.W.fnOf "__init__" "Graph.__init__" (defArgs sGIni) (defBody sGIni) (defScope sGIni) .none kVCi dcCi pmCi anCi cdCi ctCi), slCi⟩) (cCi : PySem.W.codeIn K cdCi "Graph.__init__" = true) (kCi : PySem.W.keepIn K (.ref fCi) = true)
    (iCi : PySem.W.isFn K (.ref fCi) = true)
    (qCp0 : PySem.W.findIn K (.ref C) "depths" = some (some (.ref paCp0))) (qgCp0 : PySem.W.specialIn K (.ref paCp0) "__get__" = some (some (.builtin "property.__get__"))) (qtCp0 : PySem.W.takesIn K (.ref paCp0) = some true)
    (aCp0 : PySem.W.recIn K paCp0 "property" = some (.ref fCp0 :: reCp0)) (lCp0 : K.lookup fCp0 = some ⟨ocCp0, odCp0, .func (PySem.W.fnOf "depths" "Graph.depths" (defArgs sGDep) (defBody sGDep) (defScope sGDep) .none kVCp0 dcCp0 pmCp0 anCp0 cdCp0 ctCp0), slCp0⟩) (cCp0 : PySem.W.codeIn K cdCp0 "Graph.depths" = true) (kCp0 : PySem.W.keepIn K (.ref fCp0) = true)
    (qCp1 : PySem.W.findIn K (.ref C) "edges" = some (some (.ref paCp1))) (qgCp1 : PySem.W.specialIn K (.ref paCp1) "__get__" = some (some (.builtin "property.__get__"))) (qtCp1 : PySem.W.takesIn K (.ref paCp1) = some true)
    (aCp1 : PySem.W.recIn K paCp1 "property" = some (.ref fCp1 :: reCp1)) (lCp1 : K.lookup fCp1 = some ⟨ocCp1, odCp1, .func (PySem.W.fnOf "edges" "Graph.edges" (defArgs sGEdg) (defBody sGEdg) (defScope sGEdg) .none kVCp1 dcCp1 pmCp1 anCp1 cdCp1 ctCp1), slCp1⟩) (cCp1 : PySem.W.codeIn K cdCp1 "Graph.edges" = true) (kCp1 : PySem.W.keepIn K (.ref fCp1) = true)
    (aCs0 : PySem.W.findIn K (.ref C) "__len__" = some (some (.ref fCs0))) (lCs0 : K.lookup fCs0 = some ⟨ocCs0, odCs0, .func (PySem.W.fnOf "__len__" "Graph.__len__" (defArgs sGLen) (defBody sGLen) (defScope sGLen) .none kVCs0 dcCs0 pmCs0 anCs0 cdCs0 ctCs0), slCs0⟩) (cCs0 : PySem.W.codeIn K cdCs0 "Graph.__len__" = true) (kCs0 : PySem.W.keepIn K (.ref fCs0) = true)
    (iCs0 : PySem.W.isFn K (.ref fCs0) = true)
    (z1 : PySem.W.nsIn K mainGlobals "isinstance" = some none)
    (z2 : PySem.W.nsIn K mainGlobals "int" = some none)
    (z3 : PySem.W.nsIn K mainGlobals "bool" = some none)
    (z4 : PySem.W.nsIn K mainGlobals "tuple" = some none)
    (z5 : PySem.W.nsIn K mainGlobals "len" = some none)
    (z6 : PySem.W.nsIn K mainGlobals "all" = some none)
    (z7 : PySem.W.nsIn K mainGlobals "any" = some none)
    (z8 : PySem.W.nsIn K mainGlobals "zip" = some none)
    (z9 : PySem.W.nsIn K mainGlobals "max" = some none)
    (z10 : PySem.W.nsIn K mainGlobals "min" = some none)
    (z11 : PySem.W.nsIn K mainGlobals "range" = some none)
    (z12 : PySem.W.nsIn K mainGlobals "list" = some none)
    (z13 : PySem.W.nsIn K mainGlobals "sorted" = some none)
    (z14 : PySem.W.nsIn K mainGlobals "set" = some none)
    (z15 : PySem.W.nsIn K mainGlobals "repr" = some none)
    {tk_hMP : Tok} (i_hMP : PySem.W.nsIn K mainGlobals "MOST_PLACES" = some (some (.int 24 tk_hMP)))
    {tk_hME : Tok} (i_hME : PySem.W.nsIn K mainGlobals "MOST_EDGES" = some (some (.int 60 tk_hME)))
    {tk_hMD : Tok} (i_hMD : PySem.W.nsIn K mainGlobals "MOST_DEPTH" = some (some (.int 3 tk_hMD)))
    (x_hA : PySem.W.nsIn K mainGlobals "abs" = some none)
    (x_hE : PySem.W.nsIn K mainGlobals "enumerate" = some none)
    (x_hS : PySem.W.nsIn K mainGlobals "str" = some none)
    : ∀ B : Heap, K.In B → B.Ns mainGlobals mg → FnG P w K mg B CX0 8 fa (spP K Gr.cLawC) := by
  intro B _ _
  have e := hfa.symm.trans (PySem.W.mg_of X G a18)
  cases e
  have D1 : Df K mg "is_number" sIsNum _ _ := ⟨fun_mk (st := sIsNum) l1 c1 k1, PySem.W.mg_of X G a1⟩
  have D2 : Df K mg "fits" sFits _ _ := ⟨fun_mk (st := sFits) l2 c2 k2, PySem.W.mg_of X G a2⟩
  have D3 : Df K mg "is_edge" sIsEdge _ _ := ⟨fun_mk (st := sIsEdge) l3 c3 k3, PySem.W.mg_of X G a3⟩
  have D4 : Df K mg "is_network" sIsNet _ _ := ⟨fun_mk (st := sIsNet) l4 c4 k4, PySem.W.mg_of X G a4⟩
  have D5 : Df K mg "require_network" sReqNet _ _ := ⟨fun_mk (st := sReqNet) l5 c5 k5, PySem.W.mg_of X G a5⟩
  have D6 : Df K mg "cycle_through" sCycThr _ _ := ⟨fun_mk (st := sCycThr) l6 c6 k6, PySem.W.mg_of X G a6⟩
  have D7 : Df K mg "stuck_cycle" sStuckC _ _ := ⟨fun_mk (st := sStuckC) l7 c7 k7, PySem.W.mg_of X G a7⟩
  have D8 : Df K mg "is_cycle" sIsCyc _ _ := ⟨fun_mk (st := sIsCyc) l8 c8 k8, PySem.W.mg_of X G a8⟩
  have D9 : Df K mg "is_stuck" sIsStuck _ _ := ⟨fun_mk (st := sIsStuck) l9 c9 k9, PySem.W.mg_of X G a9⟩
  have D10 : Df K mg "_law_spring" sSpring _ _ := ⟨fun_mk (st := sSpring) l10 c10 k10, PySem.W.mg_of X G a10⟩
  have D11 : Df K mg "_law_draw" sDraw _ _ := ⟨fun_mk (st := sDraw) l11 c11 k11, PySem.W.mg_of X G a11⟩
  have D12 : Df K mg "_law_network" sLNet _ _ := ⟨fun_mk (st := sLNet) l12 c12 k12, PySem.W.mg_of X G a12⟩
  have D13 : Df K mg "_law_cycles" sLCycs _ _ := ⟨fun_mk (st := sLCycs) l13 c13 k13, PySem.W.mg_of X G a13⟩
  have D14 : Df K mg "_law_is_stuck" sLStuck _ _ := ⟨fun_mk (st := sLStuck) l14 c14 k14, PySem.W.mg_of X G a14⟩
  have D15 : Df K mg "_law_is_cycle" sLCyc _ _ := ⟨fun_mk (st := sLCyc) l15 c15 k15, PySem.W.mg_of X G a15⟩
  have D16 : Df K mg "_law_values" sLVals _ _ := ⟨fun_mk (st := sLVals) l16 c16 k16, PySem.W.mg_of X G a16⟩
  have D17 : Df K mg "_law_right" sRight _ _ := ⟨fun_mk (st := sRight) l17 c17 k17, PySem.W.mg_of X G a17⟩
  have D18 : Df K mg "law" sLaw _ _ := ⟨fun_mk (st := sLaw) l18 c18 k18, PySem.W.mg_of X G a18⟩
  have clsC : Cls K C := ⟨pgC, hdC, poC, saC⟩
  have ownC : Own K C := ⟨clsC, haC, hn, htk, hmC, Dy.ck_of icC tyC⟩
  have DCi : Fun K "__init__" "Graph.__init__" sGIni _ _ := fun_mk (st := sGIni) lCi cCi kCi
  have madeC : Mk K C _ := ⟨mkC, aCi, iCi, kcC⟩
  have DCp0 : Fun K "depths" "Graph.depths" sGDep _ _ := fun_mk (st := sGDep) lCp0 cCp0 kCp0
  have PCp0 : PropOf K C "depths" _ _ := ⟨qCp0, qgCp0, qtCp0, ⟨_, aCp0⟩⟩
  have DCp1 : Fun K "edges" "Graph.edges" sGEdg _ _ := fun_mk (st := sGEdg) lCp1 cCp1 kCp1
  have PCp1 : PropOf K C "edges" _ _ := ⟨qCp1, qgCp1, qtCp1, ⟨_, aCp1⟩⟩
  have DCs0 : Fun K "__len__" "Graph.__len__" sGLen _ _ := fun_mk (st := sGLen) lCs0 cCs0 kCs0
  have SCs0 : Spc K C "__len__" _ := ⟨aCs0, iCs0⟩
  have T : Txt mg := ⟨PySem.W.mg_none_of X G z1, PySem.W.mg_none_of X G z2, PySem.W.mg_none_of X G z3, PySem.W.mg_none_of X G z4, PySem.W.mg_none_of X G z5, PySem.W.mg_none_of X G z6, PySem.W.mg_none_of X G z7, PySem.W.mg_none_of X G z8, PySem.W.mg_none_of X G z9, PySem.W.mg_none_of X G z10, PySem.W.mg_none_of X G z11, PySem.W.mg_none_of X G z12, PySem.W.mg_none_of X G z13, PySem.W.mg_none_of X G z14, PySem.W.mg_none_of X G z15⟩
  have hMP : ∃ tk, mg "MOST_PLACES" = some (.int 24 tk) := ⟨_, PySem.W.mg_of X G i_hMP⟩
  have hME : ∃ tk, mg "MOST_EDGES" = some (.int 60 tk) := ⟨_, PySem.W.mg_of X G i_hME⟩
  have hMD : ∃ tk, mg "MOST_DEPTH" = some (.int 3 tk) := ⟨_, PySem.W.mg_of X G i_hMD⟩
  have hA : mg "abs" = none := PySem.W.mg_none_of X G x_hA
  have hE : mg "enumerate" = none := PySem.W.mg_none_of X G x_hE
  have hS : mg "str" = none := PySem.W.mg_none_of X G x_hS
  have ecV : Dy.ExcF P w K mg B "StuckCycle" V "cycle" := stuckCycle_mk (PySem.W.mg_of X G xgV) xlkCV xrvV xsaV xsbV xtyV xkpV xicV xssV xfiV xtIV xlkIV xcdV xlkDV xv2V xhfV xlkLV xmrV xsiV xveV xopV xtpV (PySem.W.mg_none_of X G xhsV) xnoV xgaV xggV xhxV
  have M : Gr.Most mg := ⟨hMP, hME, hMD⟩
  have c : Gr.Cg K mg C := ⟨ownC, nC_depth_row, nC_edge_row, PySem.W.mg_of X G gC⟩
  have G1 := gn_mk D1 (Gr.is_number (P := P) (w := w) (base := B) D1 T)
  have G1g := gn_mk D1 (Gr.is_numberG (P := P) (w := w) (base := B) D1 T)
  have G2 := gn_mk D2 (Gr.fits (P := P) (w := w) (base := B) D2)
  have G3 := gn_mk D3 (Gr.is_edge (P := P) (w := w) (base := B) D3 T hS G1 G2)
  have G4 := gn_mk D4 (Gr.is_network (P := P) (w := w) (base := B) D4 T M G1 G3)
  have G5 := gn_mk D5 (Gr.require_network (P := P) (w := w) (base := B) D5 G4)
  have G6 := gn_mk D6 (Gr.cycle_through (P := P) (w := w) (base := B) D6 T)
  have G7 := gn_mk D7 (Gr.stuck_cycle (P := P) (w := w) (base := B) D7 T hE M G6)
  have G8 := gn_mk D8 (Gr.is_cycleG (P := P) (w := w) (base := B) D8 T G1g)
  have G9 := gn_mk D9 (Gr.is_stuckG (P := P) (w := w) (base := B) D9 T G5 G8)
  have GI := Gr.gInit (P := P) (w := w) (base := B) DCi c T G5 G7
  have GX := Gr.gInitX (P := P) (w := w) (base := B) DCi ecV G5 G7
  have GD := Gr.gDep (P := P) (w := w) (base := B) DCp0 c T
  have GE := Gr.gEdg (P := P) (w := w) (base := B) DCp1 c T
  have GL := Gr.gLen (P := P) (w := w) (base := B) DCs0 c T
  have gk : Gr.GrL P w K mg B C V := ⟨c, ecV, ⟨_, madeC, GI, GX⟩, ⟨_, _, PCp0, GD⟩, ⟨_, _, PCp1, GE⟩, ⟨_, SCs0, GL⟩⟩
  have L1 := gn_mk D10 (Sp.law_coil (P := P) (w := w) (base := B) D10 hA)
  have L2 := gn_mk D11 (Sp.law_pick (P := P) (w := w) (base := B) D11)
  have L3 := gn_mk D12 (Gr.law_network (P := P) (w := w) (base := B) D12 T hA L2)
  have L4 := gn_mk D13 (Gr.law_cycles (P := P) (w := w) (base := B) D13 T)
  have L5 := gn_mk D14 (Gr.law_is_stuckG (P := P) (w := w) (base := B) D14 T)
  have L6 := gn_mk D15 (Gr.law_is_cycleG (P := P) (w := w) (base := B) D15 T)
  have L7 := gn_mk D16 (Gr.law_values (P := P) (w := w) (base := B) D16 T hS L2)
  have L8 := gn_mk D17 (Gr.law_rightK (P := P) (w := w) (base := B) D17 T gk L4 L5 L6 L7 G9)
  exact Gr.law_lawC D18 T L1 L3 L8 G9
end Gr
open PySem PySem.W PyProof.Rows
set_option maxHeartbeats 0 in
theorem PySem.Challenge.cw_gridtraces_k47_stuck_cycles_of_small_net_holds : PySem.Challenge.rw_gridtraces_k47_stuck_cycles_of_small_net.Holds := by
  w_on; o_law; k_head; (case hw => w_witness2)
  k_fill
  refine Dy.walkG (l := PySem.Challenge.rw_gridtraces_k47_stuck_cycles_of_small_net) (n := 63) (k := 8) (C := Gr.cLawC) rfl (by decide) rfl ⟨rfl, by decide, by decide⟩ (fun w h Y => PySem.W.kIn_of Y) ?F (fun ns hl => ⟨ns, rfl, hl, rfl⟩)
  case F =>
    intro w mg fa h KX G hmg
    refine' Gr.all_mk KX G hmg ?a1 ?l1 ?c1 ?k1 ?a2 ?l2 ?c2 ?k2 ?a3 ?l3 ?c3 ?k3 ?a4 ?l4 ?c4 ?k4 ?a5 ?l5 ?c5 ?k5 ?a6 ?l6 ?c6 ?k6 ?a7 ?l7 ?c7 ?k7 ?a8 ?l8 ?c8 ?k8 ?a9 ?l9 ?c9 ?k9 ?a10 ?l10 ?c10 ?k10 ?a11 ?l11 ?c11 ?k11 ?a12 ?l12 ?c12 ?k12 ?a13 ?l13 ?c13 ?k13 ?a14 ?l14 ?c14 ?k14 ?a15 ?l15 ?c15 ?k15 ?a16 ?l16 ?c16 ?k16 ?a17 ?l17 ?c17 ?k17 ?a18 ?l18 ?c18 ?k18 ?gC ?pgC ?hdC ?poC ?saC ?haC ?hmC ?icC ?tyC ?mkC ?kcC ?nC_depth_row ?nC_edge_row ?hn ?htk ?xgV ?xlkCV ?xrvV ?xsaV ?xsbV ?xtyV ?xkpV ?xicV ?xssV ?xfiV ?xtIV ?xlkIV ?xcdV ?xlkDV ?xv2V ?xhfV ?xlkLV ?xmrV ?xsiV ?xveV ?xopV ?xtpV ?xhsV ?xnoV ?xgaV ?xggV ?xhxV ?aCi ?lCi ?cCi ?kCi ?iCi ?qCp0 ?qgCp0 ?qtCp0 ?aCp0 ?lCp0 ?cCp0 ?kCp0 ?qCp1 ?qgCp1 ?qtCp1 ?aCp1 ?lCp1 ?cCp1 ?kCp1 ?aCs0 ?lCs0 ?cCs0 ?kCs0 ?iCs0 ?z1 ?z2 ?z3 ?z4 ?z5 ?z6 ?z7 ?z8 ?z9 ?z10 ?z11 ?z12 ?z13 ?z14 ?z15 ?i_hMP ?i_hME ?i_hMD ?x_hA ?x_hE ?x_hS
    (case a1 => k_is)
    (case l1 => k_is)
    (case c1 => k_is)
    (case k1 => k_is)
    (case a2 => k_is)
    (case l2 => k_is)
    (case c2 => k_is)
    (case k2 => k_is)
    (case a3 => k_is)
    (case l3 => k_is)
    (case c3 => k_is)
    (case k3 => k_is)
    (case a4 => k_is)
    (case l4 => k_is)
    (case c4 => k_is)
    (case k4 => k_is)
    (case a5 => k_is)
    (case l5 => k_is)
    (case c5 => k_is)
    (case k5 => k_is)
    (case a6 => k_is)
    (case l6 => k_is)
    (case c6 => k_is)
    (case k6 => k_is)
    (case a7 => k_is)
    (case l7 => k_is)
    (case c7 => k_is)
    (case k7 => k_is)
    (case a8 => k_is)
    (case l8 => k_is)
    (case c8 => k_is)
    (case k8 => k_is)
    (case a9 => k_is)
    (case l9 => k_is)
    (case c9 => k_is)
    (case k9 => k_is)
    (case a10 => k_is)
    (case l10 => k_is)
    (case c10 => k_is)
    (case k10 => k_is)
    (case a11 => k_is)
    (case l11 => k_is)
    (case c11 => k_is)
    (case k11 => k_is)
    (case a12 => k_is)
    (case l12 => k_is)
    (case c12 => k_is)
    (case k12 => k_is)
    (case a13 => k_is)
    (case l13 => k_is)
    (case c13 => k_is)
    (case k13 => k_is)
    (case a14 => k_is)
    (case l14 => k_is)
    (case c14 => k_is)
    (case k14 => k_is)
    (case a15 => k_is)
    (case l15 => k_is)
    (case c15 => k_is)
    (case k15 => k_is)
    (case a16 => k_is)
    (case l16 => k_is)
    (case c16 => k_is)
    (case k16 => k_is)
    (case a17 => k_is)
    (case l17 => k_is)
    (case c17 => k_is)
    (case k17 => k_is)
    (case a18 => k_is)
    (case l18 => k_is)
    (case c18 => k_is)
    (case k18 => k_is)
    (case gC => k_is)
    (case pgC => k_is)
    (case hdC => k_is)
    (case poC => k_is)
    (case saC => k_is)
    (case haC => k_is)
    (case hmC => k_is)
    (case icC => k_is)
    (case tyC => k_is)
    (case mkC => k_is)
    (case kcC => k_is)
    (case nC_depth_row => k_is)
    (case nC_edge_row => k_is)
    (case hn => k_is)
    (case htk => k_is)
    (case xgV => k_is)
    (case xlkCV => k_is)
    (case xrvV => kernel_rfl)
    (case xsaV => k_is)
    (case xsbV => k_is)
    (case xtyV => k_is)
    (case xkpV => k_is)
    (case xicV => k_is)
    (case xssV => k_is)
    (case xfiV => k_is)
    (case xtIV => k_is)
    (case xlkIV => k_is)
    (case xcdV => k_is)
    (case xlkDV => k_is)
    (case xv2V => rfl)
    (case xhfV => kernel_rfl)
    (case xlkLV => k_is)
    (case xmrV => k_is)
    (case xsiV => ks_is)
    (case xveV => k_is)
    (case xopV => k_is)
    (case xtpV => kernel_rfl)
    (case xhsV => k_is)
    (case xnoV => k_is)
    (case xgaV => k_is)
    (case xggV => k_is)
    (case xhxV => k_is)
    (case aCi => k_is)
    (case lCi => k_is)
    (case cCi => k_is)
    (case kCi => k_is)
    (case iCi => k_is)
    (case qCp0 => k_is)
    (case qgCp0 => k_is)
    (case qtCp0 => k_is)
    (case aCp0 => k_is)
    (case lCp0 => k_is)
    (case cCp0 => k_is)
    (case kCp0 => k_is)
    (case qCp1 => k_is)
    (case qgCp1 => k_is)
    (case qtCp1 => k_is)
    (case aCp1 => k_is)
    (case lCp1 => k_is)
    (case cCp1 => k_is)
    (case kCp1 => k_is)
    (case aCs0 => k_is)
    (case lCs0 => k_is)
    (case cCs0 => k_is)
    (case kCs0 => k_is)
    (case iCs0 => k_is)
    (case z1 => k_is)
    (case z2 => k_is)
    (case z3 => k_is)
    (case z4 => k_is)
    (case z5 => k_is)
    (case z6 => k_is)
    (case z7 => k_is)
    (case z8 => k_is)
    (case z9 => k_is)
    (case z10 => k_is)
    (case z11 => k_is)
    (case z12 => k_is)
    (case z13 => k_is)
    (case z14 => k_is)
    (case z15 => k_is)
    (case i_hMP => k_is)
    (case i_hME => k_is)
    (case i_hMD => k_is)
    (case x_hA => k_is)
    (case x_hE => k_is)
    (case x_hS => k_is)
