import PyProof.Rows.All
import Wide.All
import OpenK.AllK
import Wide.FinOn
import HandS.ForMost
import HandS.ForExc
import HandS.Wide
import HandS.WideBits
import HandS.Walk
import HandS.TupAny
import HandS.TupMul
import HandS.Zip
import HandS.Rev
import HandS.RevRange
import HandS.Conv
import HandS.IsInst
import HandS.Flow
import HandS.Style
import HandS.RaiseMore
import HandS.Deep
import HandS.Defaults
import HandS.TryMany
import HandS.Head0
import HandS.Head1
import HandS.Head2
import HandS.HeadEnd
import HandS.HeadHook1
import HandS.HeadHook2
import PyProof.ReprRoads
import PyProof.CallFns
import HandS.Text
import KE.KeyNested
import PyProof.DictKeyH
import PyProof.DictRoadsH
import PyProof.Rows.TupTab
import HandS.Dict
import HandS.Iter
import HandS.TupLen
import KE.SortData
import KE.DataMinMax
import HandS.SortKw
import KE.KDictCopyH
import KE.KDictOf
import KE.KDictSum
import PyProof.Transfer
import KE.KEqDict
import PyProof.DictTable
import PyProof.DictDisplay
import PyProof.ListRange
import PyProof.SumWalkG
import PyProof.ReprBulk
import PySem.Challenge.RW_undivide_k03_whole_polynomials_by_points
set_option Elab.async false
set_option linter.all false
set_option maxRecDepth 100000
set_option maxHeartbeats 8000000
/-! Da: what is imported. -/
namespace Deep
end Deep

/-! Dr: repr of data, by the hand layer's values. -/
namespace Deep
open PySem PySem.Spec L2 PyProof.Rows
def ShowOk (p : PyData) : Prop := p.showable = true ∧ p.depth ≤ 100 ∧ p.shown.length ≤ sizeLine
mutual
theorem Dp.noDict {K : PySem.W.Frag} {H : Hp} : ∀ (d : PyData) {v : V}, Dp K H v d → d.hasDict = false
  | .none, _, _ => by simp only [PyData.hasDict]
  | .bool _, _, _ => by simp only [PyData.hasDict]
  | .int _, _, _ => by simp only [PyData.hasDict]
  | .str _, _, _ => by simp only [PyData.hasDict]
  | .list ds, _, h => by
    cases h with
    | lst _ ha => simp only [PyData.hasDict]; exact Dp.noDictAll ds ha
  | .tuple ds, _, h => by
    cases h with
    | tup _ ha => simp only [PyData.hasDict]; exact Dp.noDictAll ds ha
  | .dict _, _, h => by cases h
theorem Dp.noDictAll {K : PySem.W.Frag} {H : Hp} : ∀ (ds : List PyData) {vs : List V}, DpAll K H vs ds → PyData.hasDictAll ds = false
  | [], _, _ => by simp only [PyData.hasDictAll]
  | d :: ds, _, h => by
    cases h with
    | cons h1 h2 => simp only [PyData.hasDictAll, Dp.noDict d h1, Dp.noDictAll ds h2, Bool.or_self]
end
section
variable {X : Cx}
def rRepr (K : PySem.W.Frag) : List V → Hp → VK → Prop := fun xs H Q => ∃ v p, xs = [v] ∧ Dp K H v p ∧ ShowOk p ∧ Q (.str p.shown) H
theorem cr_repr (hg : X.A.guards = some []) (hu : X.A.units + 200 < cLine) : CallR X (.builtin "repr") (rRepr X.K) := by
  intro pins s σ H xs us Q I r h
  obtain ⟨v, p, rfl, hd, ⟨h1, h2, h3⟩, q⟩ := h
  obtain ⟨u, rfl, rx⟩ := vals1 r
  cases p with
  | none =>
    cases hd
    cases rx
    exact P.repr_of_none ⟨.str _, H, I.tok _, ⟨_, rfl⟩, q⟩
  | bool b =>
    cases hd
    cases rx
    exact P.repr_of_bool ⟨.str _, H, I.tok _, ⟨_, rfl⟩, q⟩
  | int i =>
    cases hd
    obtain ⟨t, rfl⟩ := rx
    simp only [PyData.showable, decide_eq_true_eq] at h1
    exact P.repr_of_int h1 ⟨.str _, H, I.tok _, ⟨_, rfl⟩, q⟩
  | str x =>
    cases hd
    obtain ⟨t, rfl⟩ := rx
    exact P.repr_of_str ⟨.str _, H, I.tok _, ⟨_, rfl⟩, q⟩ h3
  | list ds =>
    have nd := Dp.noDict _ hd
    obtain ⟨as, rd⟩ := Dp.reads I _ _ _ hd rx
    cases hd
    cases rx
    exact repr_of_reads' rd h1 (PyData.noDict_hsm nd) hg (by omega) (fun _ _ z => z) (fun h' u tk hk => ⟨.str _, H, I.kept hk, ⟨_, rfl⟩, q⟩) h3
  | tuple ds =>
    have nd := Dp.noDict _ hd
    obtain ⟨as, rd⟩ := Dp.reads I _ _ _ hd rx
    cases hd
    cases rx
    exact repr_of_reads' rd h1 (PyData.noDict_hsm nd) hg (by omega) (fun _ _ z => z) (fun h' u tk hk => ⟨.str _, H, I.kept hk, ⟨_, rfl⟩, q⟩) h3
  | dict _ => cases hd
/-! a text times an int -/
def repS (x : Str) (n : Int) : Str := ⟨(List.replicate n.toNat x.cps).foldl (· ++ ·) #[]⟩
def RepOk (x : Str) (n : Int) : Prop := -(2 ^ 62) ≤ n ∧ n < 2 ^ 62 ∧ x.length ≤ sizeLine ∧ x.length * n.toNat ≤ sizeLine
def rMulS : R2 := fun x y H Q => ∃ z n, x = .str z ∧ y = .int n ∧ RepOk z n ∧ Q (.str (repS z n)) H
theorem foldl_nil : ∀ m : Nat, (List.replicate m (#[] : Array Nat)).foldl (· ++ ·) #[] = #[]
  | 0 => rfl
  | m + 1 => by
    rw [List.replicate_succ, List.foldl_cons, Array.append_empty]
    exact foldl_nil m
theorem repS_len (x : Str) : ∀ m : Nat, ((List.replicate m x.cps).foldl (· ++ ·) #[]).size = x.length * m := by
  have gen : ∀ (m : Nat) (a : Array Nat), ((List.replicate m x.cps).foldl (· ++ ·) a).size = a.size + x.length * m := by
    intro m
    induction m with
    | zero => intro a; simp
    | succ m ih =>
      intro a
      rw [List.replicate_succ, List.foldl_cons, ih, Array.size_append, Nat.mul_succ]
      show a.size + x.length + x.length * m = _
      omega
  intro m
  rw [gen]
  simp
theorem op_mulS : OpR X (binaryOp .Mult) rMulS := by
  intro pins s σ H x y v u Q I rx ry h
  obtain ⟨z, n, rfl, rfl, ⟨h1, h2, h3, h4⟩, q⟩ := h
  obtain ⟨t, rfl⟩ := rx
  obtain ⟨t', rfl⟩ := ry
  refine P.mul_str (by rw [decide_eq_false (by omega), decide_eq_false (by omega)]; rfl) (fun hp hb => ?_) (fun hp hb => ?_) ?_
  · intro hgt
    have hn : 0 < n := by omega
    have e : ((z.length * n.toNat : Nat) : Int) = (z.length : Int) * n := by
      rw [Int.natCast_mul, Int.toNat_of_nonneg (by omega)]
    have hs : sizeLine = 16777216 := rfl
    have : (z.length : Int) ≤ (2 ^ 63 - 1) / n := Int.le_ediv_of_mul_le hn (by rw [← e]; omega)
    omega
  · unfold Builtin.Str.tooLong
    exact decide_eq_false (by omega)
  · split
    · rename_i hl
      have e : repS z n = Str.empty := by
        unfold repS
        rw [show n.toNat = 0 by omega]
        rfl
      rw [e] at q
      exact ⟨by decide, .str _, H, I.tok _, ⟨_, rfl⟩, q⟩
    · split
      · rename_i h5 h6
        have e : repS z n = z := by
          simp only [Bool.or_eq_true, beq_iff_eq] at h6
          rcases h6 with h6 | h6
          · subst h6
            unfold repS
            show (⟨#[] ++ z.cps⟩ : Str) = z
            rw [Array.empty_append]
          · have e0 : z.cps = #[] := Array.eq_empty_of_size_eq_zero h6
            unfold repS
            rw [e0, foldl_nil, ← e0]
        rw [e] at q
        exact ⟨.str _, H, I, ⟨_, rfl⟩, q⟩
      · exact ⟨by show ((List.replicate n.toNat z.cps).foldl (· ++ ·) #[]).size ≤ sizeLine; rw [repS_len]; exact h4, .str _, H, I.tok _, ⟨_, rfl⟩, q⟩
end
end Deep

/-! Dd: dicts whose keys are tuples of any depth, by the hand layer's values: the object told by what stands at its address. -/
namespace Deep
open PySem PySem.Spec L2 PyProof.Rows
abbrev NKey := NestedKey
section
variable {X : Cx} {pins : List (Addr × Obj)} {σ : L2.St} {H : Hp} {s : Shared}
mutual
theorem dp_nested (I : Inv X pins σ H s) : ∀ (k : NKey) (v : V) (u : Value), Dp X.K H v k.data → RelV v u → NestedIs s.heap k u
  | .none, _, _, h, r => by
    simp only [NestedKey.data] at h
    cases h; cases r; exact .none
  | .num i, _, _, h, r => by
    simp only [NestedKey.data] at h
    cases h; obtain ⟨t, rfl⟩ := r; exact .int i t
  | .text x, _, _, h, r => by
    simp only [NestedKey.data] at h
    cases h; obtain ⟨t, rfl⟩ := r; exact .text x t
  | .tup ks, _, _, h, r => by
    simp only [NestedKey.data] at h
    cases h with
    | tup hs ha =>
      cases r
      obtain ⟨its, rv, ⟨o, ho, hc, n, hd⟩, _⟩ := I.tuple hs
      exact .tup ho hc hd (by rw [List.toList_toArray]; exact dp_nestedAll I ks _ its ha rv)
theorem dp_nestedAll (I : Inv X pins σ H s) : ∀ (ks : List NKey) (vs : List V) (us : List Value), DpAll X.K H vs (NestedKey.datas ks) → Vals vs us → NestedAll s.heap ks us
  | [], _, _, h, r => by
    simp only [NestedKey.datas] at h
    cases h; cases r; exact .nil
  | k :: ks, _, _, h, r => by
    simp only [NestedKey.datas] at h
    cases h with
    | cons h1 h2 =>
      cases r with
      | cons r1 r2 => exact .cons (dp_nested I k _ _ h1 r1) (dp_nestedAll I ks _ _ h2 r2)
end
end
/-- an entry: the key, its tuple's address, the value -/
abbrev Ent3 := NKey × Addr × V
abbrev PX : List Ent3 → List (NKey × Addr × Value) → Prop := Paired fun p q => p.1 = q.1 ∧ p.2.1 = q.2.1 ∧ RelV p.2.2 q.2.2
def valX (vs : List Ent3) (k : NKey) : Option V := (vs.find? fun x => decide (x.1 = k)).map (·.2.2)
def replX (k : NKey) (v : V) (x : Ent3) : Ent3 := if x.1 = k then (x.1, x.2.1, v) else x
def putX (vs : List Ent3) (k : NKey) (b : Addr) (v : V) : List Ent3 := if (valX vs k).isSome then vs.map (replX k v) else vs ++ [(k, b, v)]
theorem valX_pos {p : Ent3} {ps : List Ent3} {k : NKey} (e : p.1 = k) : valX (p :: ps) k = some p.2.2 := by simp [valX, List.find?_cons, e]
theorem valX_neg {p : Ent3} {ps : List Ent3} {k : NKey} (e : ¬ p.1 = k) : valX (p :: ps) k = valX ps k := by simp [valX, List.find?_cons, e]
theorem PX.val {vs : List Ent3} {xs : List (NKey × Addr × Value)} (r : PX vs xs) (k : NKey) : RelO (valX vs k) ((atKey xs k).map (·.2)) := by
  induction r with
  | nil => exact True.intro
  | @cons p q ps qs h t ih =>
    obtain ⟨h1, _, h2⟩ := h
    by_cases e : p.1 = k
    · have e' : q.1 = k := h1.symm.trans e
      have b : atKey (q :: qs) k = some q.2 := by simp [atKey, List.find?_cons, e']
      rw [valX_pos e, b]; exact h2
    · have e' : ¬ q.1 = k := fun z => e (h1.trans z)
      have b : atKey (q :: qs) k = atKey qs k := by simp [atKey, List.find?_cons, e']
      rw [valX_neg e, b]; exact ih
theorem PX.repl {vs : List Ent3} {xs : List (NKey × Addr × Value)} (r : PX vs xs) (k : NKey) {y : V} {u : Value} (ry : RelV y u) : PX (vs.map (replX k y)) (xs.map (putAt k u)) := by
  induction r with
  | nil => exact .nil
  | @cons p q ps qs h t ih =>
    rw [List.map_cons, List.map_cons]
    refine .cons ?_ ih
    obtain ⟨h1, h2, h3⟩ := h
    unfold putAt replX
    by_cases e : p.1 = k
    · rw [if_pos e, if_pos (h1.symm.trans e)]; exact ⟨h1, h2, ry⟩
    · rw [if_neg e, if_neg (fun z => e (h1.trans z))]; exact ⟨h1, h2, h3⟩
theorem PX.put {vs : List Ent3} {xs : List (NKey × Addr × Value)} (r : PX vs xs) (k : NKey) (b : Addr) {y : V} {u : Value} (ry : RelV y u) : PX (putX vs k b y) (storedH xs k b u) := by
  have e : (valX vs k).isSome = (atKey xs k).isSome := by rw [(r.val k).isSome_eq, Option.isSome_map]
  unfold putX storedH
  rw [e]
  by_cases q : (atKey xs k).isSome = true
  · rw [if_pos q, if_pos q]; exact r.repl k ry
  · rw [if_neg q, if_neg q]; exact Paired.snoc r ⟨rfl, rfl, ry⟩
theorem PX.keys {vs : List Ent3} {xs : List (NKey × Addr × Value)} (r : PX vs xs) : vs.map (·.1) = xs.map (·.1) := by
  induction r with
  | nil => rfl
  | cons h t ih => rw [List.map_cons, List.map_cons, ih, h.1]
theorem PX.addr {vs : List Ent3} {xs : List (NKey × Addr × Value)} (r : PX vs xs) : ∀ x ∈ xs, ∃ y ∈ vs, y.1 = x.1 ∧ y.2.1 = x.2.1 := by
  induction r with
  | nil => exact fun x h => nomatch h
  | @cons p q ps qs h t ih =>
    intro x hx
    rcases List.mem_cons.mp hx with e | hx
    · subst e; exact ⟨p, List.mem_cons_self .., h.1, h.2.1⟩
    · obtain ⟨y, hy, e⟩ := ih x hx
      exact ⟨y, List.mem_cons_of_mem _ hy, e⟩
theorem putX_len (vs : List Ent3) (k : NKey) (b : Addr) (v : V) : (putX vs k b v).length ≤ vs.length + 1 := by
  unfold putX
  split
  · rw [List.length_map]; omega
  · rw [List.length_append, List.length_singleton]; omega
theorem putX_mem {vs : List Ent3} {k : NKey} {b : Addr} {v : V} {x : Ent3} (h : x ∈ putX vs k b v) : (∃ y ∈ vs, y.1 = x.1 ∧ y.2.1 = x.2.1) ∨ (x.1 = k ∧ x.2.1 = b) := by
  unfold putX at h
  split at h
  · obtain ⟨y, hy, rfl⟩ := List.mem_map.mp h
    refine .inl ⟨y, hy, ?_⟩
    unfold replX
    split <;> exact ⟨rfl, rfl⟩
  · rcases List.mem_append.mp h with h | h
    · exact .inl ⟨x, h, rfl, rfl⟩
    · rw [List.mem_singleton.mp h]; exact .inr ⟨rfl, rfl⟩
/-- what stands at a dict's address -/
def rawF (w : World) (a : Addr) (vs : List Ent3) (h : Heap) : Prop := ∃ (xs : List (NKey × Addr × Value)) (o : Obj) (es : Array DictEntry) (ep : Nat), PX vs xs ∧ h.get? a = some o ∧ o.ExactDict ∧ o.data = .dict es ep ∧ es.toList = xs.map fun x => (⟨x.1.hash w, .ref x.2.1, x.2.2⟩ : DictEntry)
def rawO (w : World) (a : Addr) (vs : List Ent3) : HO := .ext (rawF w a vs)
structure DXt (K : PySem.W.Frag) (H : Hp) (a : Addr) (vs : List Ent3) : Prop where
  z : vs.length ≤ sizeLine
  ns : (a == sysModules) = false
  nd : (vs.map (·.1)).Nodup
  ks : ∀ x ∈ vs, Dp K H (.ref x.2.1) x.1.data ∧ x.1.depth ≤ 8
def RdX (K : PySem.W.Frag) (w : World) (H : Hp) (a : Addr) (vs : List Ent3) : Prop := Rd H a (rawO w a vs) ∧ DXt K H a vs
/-- a value is a key -/
def KeyX (K : PySem.W.Frag) (H : Hp) (y : V) (k : NKey) (b : Addr) : Prop := y = .ref b ∧ Dp K H (.ref b) k.data ∧ k.depth ≤ 8
section
variable {P : Program} {w : World} {H : Hp} {h : Heap} {a : Addr} {vs : List Ent3}
theorem raw_ok (x : rawF w a vs h) : ObjOk P w H h a (rawO w a vs) := by
  refine ⟨x, ?_, fun h1 h2 p k => ?_⟩
  · obtain ⟨_, o, _, _, _, e, _⟩ := x; exact ⟨o, e⟩
  · obtain ⟨xs, o, es, ep, r, e, c⟩ := p
    exact ⟨xs, o, es, ep, r, k _ e, c⟩
theorem raw_of {xs : List (NKey × Addr × Value)} (r : PX vs xs) (dd : h.DictOfH (nestedKind P w) a xs) : rawF w a vs h := by
  obtain ⟨o, es, ep, h1, h2, h3, h4, _⟩ := dd
  exact ⟨xs, o, es, ep, r, h1, h2, h3, h4⟩
end
section
variable {X : Cx} {pins : List (Addr × Obj)} {σ : L2.St} {H : Hp} {s : Shared} {a b : Addr} {y v : V} {u r : Value} {k : NKey} {vs : List Ent3} {A : Around} {E : Value → Shared → Prop}
theorem key_is (I : Inv X pins σ H s) (h : Dp X.K H (.ref b) k.data ∧ k.depth ≤ 8) : (nestedKind X.prog X.w).is s.heap k b := ⟨dp_nested I k _ _ h.1 rfl, h.2⟩
theorem dx_of (I : Inv X pins σ H s) (h : RdX X.K X.w H a vs) : ∃ xs, PX vs xs ∧ s.heap.DictOfH (nestedKind X.prog X.w) a xs := by
  obtain ⟨h1, t⟩ := h
  obtain ⟨⟨xs, o, es, ep, r, e, c, d, l⟩, _⟩ := (show ObjOk X.prog X.w H s.heap a (rawO X.w a vs) from h1.ok I.hok)
  refine ⟨xs, r, o, es, ep, e, c, d, l, fun x hx => ?_, by rw [← r.keys]; exact t.nd⟩
  obtain ⟨z, hz, e1, e2⟩ := r.addr x hx
  rw [← e1, ← e2]
  exact key_is I (t.ks z hz)
theorem room8 (hu : A.units + 200 < cLine) : (nestedKind X.prog X.w).room A.in1 := by
  show A.units + 1 + 8 < cLine
  omega
theorem x_getItem {Q : Value → Shared → Prop} (hu : A.units + 200 < cLine) (I : Inv X pins σ H s) (g : RdX X.K X.w H a vs) (hk : KeyX X.K H y k b) (l : valX vs k = some v) (ry : RelV y u) (h : ∀ w' s', Inv X pins σ H s' → RelV v w' → Q w' s') : wpAny (model X.prog X.w) A (getItem (.ref a) u) Q E s := by
  obtain ⟨rfl, hk⟩ := hk
  cases (show u = Value.ref b from ry)
  obtain ⟨xs, rel, dd⟩ := dx_of I g
  obtain ⟨w', hw, rw'⟩ := RelO.some_of (v := v) (o := (atKey xs k).map (·.2)) (by rw [← l]; exact rel.val k)
  obtain ⟨p, hp, hp2⟩ := Option.map_eq_some_iff.mp hw
  refine wpAny_getItem_heap (room8 (X := X) hu) (key_is I hk) dd hp ?_
  rw [hp2]
  exact h w' _ (I.tok _) rw'
theorem x_in {Q : Value → Shared → Prop} (hu : A.units + 200 < cLine) (I : Inv X pins σ H s) (g : RdX X.K X.w H a vs) (hk : KeyX X.K H y k b) (ry : RelV y u) (h : ∀ s', Inv X pins σ H s' → Q (.bool (valX vs k).isSome) s') : wpAny (model X.prog X.w) A (compareOp .In u (.ref a)) Q E s := by
  obtain ⟨rfl, hk⟩ := hk
  cases (show u = Value.ref b from ry)
  obtain ⟨xs, rel, dd⟩ := dx_of I g
  refine wpAny_in_heap (room8 (X := X) hu) (key_is I hk) g.2.ns dd ?_
  have q := (rel.val k).isSome_eq
  rw [Option.isSome_map] at q
  rw [← q]
  exact h _ (I.tok _)
theorem x_notIn {Q : Value → Shared → Prop} (hu : A.units + 200 < cLine) (I : Inv X pins σ H s) (g : RdX X.K X.w H a vs) (hk : KeyX X.K H y k b) (ry : RelV y u) (h : ∀ s', Inv X pins σ H s' → Q (.bool (!(valX vs k).isSome)) s') : wpAny (model X.prog X.w) A (compareOp .NotIn u (.ref a)) Q E s := by
  obtain ⟨rfl, hk⟩ := hk
  cases (show u = Value.ref b from ry)
  obtain ⟨xs, rel, dd⟩ := dx_of I g
  refine wpAny_notIn_heap (room8 (X := X) hu) (key_is I hk) g.2.ns dd ?_
  have q := (rel.val k).isSome_eq
  rw [Option.isSome_map] at q
  rw [← q]
  exact h _ (I.tok _)
theorem x_get2 {d : V} {Q : Value → Shared → Prop} (hu : A.units + 200 < cLine) (I : Inv X pins σ H s) (g : RdX X.K X.w H a vs) (hk : KeyX X.K H y k b) (ry : RelV y u) (rd : RelV d r) (h : ∀ w' s', Inv X pins σ H s' → RelV ((valX vs k).getD d) w' → Q w' s') :
    wpAny (model X.prog X.w) A (call (.builtin "dict.get") [.ref a, u, r]) Q E s := by
  obtain ⟨rfl, hk⟩ := hk
  cases (show u = Value.ref b from ry)
  obtain ⟨xs, rel, dd⟩ := dx_of I g
  exact call_meetsIn PySem.F.slot_dict_get dd.typeIs PySem.F.entry_dict_get (PySem.F.args_dict_get_3 _ _ _) (meetsH_dict_get_default (nestedKind X.prog X.w) a b g.2.ns r) ⟨room8 (X := X) hu, k, xs, key_is I hk, dd, h _ _ (I.tok _) ((rel.val k).getD rd)⟩
theorem x_setItem {Q : Unit → Shared → Prop} (hu : A.units + 200 < cLine) (I : Inv X pins σ H s) (e : H a = some (rawO X.w a vs)) (t : DXt X.K H a vs) (hk : KeyX X.K H y k b) (ry : RelV y u) (rv : RelV v r)
    (h : ∀ s', Inv X pins σ (upd H a (rawO X.w a (putX vs k b v))) s' → Q () s') : wpAny (model X.prog X.w) A (setItem (.ref a) u r) Q E s := by
  obtain ⟨rfl, hk⟩ := hk
  cases (show u = Value.ref b from ry)
  obtain ⟨xs, rel, dd⟩ := dx_of I ⟨.inl e, t⟩
  refine wpAny_setItem_heap (hsz := by rw [← Paired.length rel]; exact t.z) (room8 (X := X) hu) (key_is I hk) dd fun h' dd' hs => h _ ?_
  obtain ⟨q, es, ep, hq, _⟩ := id dd'
  exact d_write I (by rw [e]; exact True.intro) hs ⟨q, hq⟩ (raw_ok (raw_of (rel.put k b rv) dd'))
theorem x_len {Q : Value → Shared → Prop} (I : Inv X pins σ H s) (g : RdX X.K X.w H a vs) (h : ∀ t s', Inv X pins σ H s' → Q (.int vs.length t) s') : wpAny (model X.prog X.w) A (call (.builtin "len") [.ref a]) Q E s := by
  obtain ⟨xs, rel, dd⟩ := dx_of I g
  have z := g.2.z
  have e : vs.length = xs.length := Paired.length rel
  refine call_len_dictH g.2.ns dd (by rw [sizeLine_eq] at z; omega) ?_
  rw [← e]
  exact h _ _ (I.tok _)
/-- {} -/
def tDNewX (w : World) : TE := fun _ H Q => ∀ p, H p = none → (p == sysModules) = false → Q (.ref p) (upd H p (rawO w p []))
theorem raw_empty {w : World} (h : Heap) : rawF w h.objs.size [] (h.push { cls := .type "dict", data := .dict #[] }) :=
  ⟨[], _, #[], 0, .nil, Heap.get?_push_size _ rfl, ⟨rfl, rfl, rfl⟩, rfl, rfl⟩
theorem pe_dnewX {pos : Pos} : PE X (.Dict [] [] pos) (tDNewX X.w) := ⟨fun pins s σ H Q I h =>
  wpAny_Dict_empty ⟨.ref s.heap.objs.size, _, I.laid (a := s.heap.objs.size) (o := rawO X.w s.heap.objs.size []) (t' := s.toks) (fun _ _ q => Heap.get?_push_of_some _ q) (Nat.le_refl _) (raw_ok (raw_empty s.heap)), rfl,
    h _ (I.hok.fresh (Nat.le_refl _)) (beq_eq_false_iff_ne.mpr (Ne.symm (Nat.ne_of_lt I.big)))⟩⟩
theorem big_ns (I : Inv X pins σ H s) : (s.heap.objs.size == sysModules) = false := beq_eq_false_iff_ne.mpr (Ne.symm (Nat.ne_of_lt I.big))
end
/-! ### a walk over the keys of a locked dict -/
def Itx (w : World) (d : Addr) (o : Obj) (vs : List Ent3) : It :=
  ⟨fun i H => (H d = some (.frz o (rawO w d vs)) ∧ (d == sysModules) = false) ∧ i < vs.length, fun i H x H' => H' = H ∧ ∃ e, vs[i]? = some e ∧ x = .ref e.2.1, fun i H => (H d = some (.frz o (rawO w d vs)) ∧ (d == sysModules) = false) ∧ vs.length ≤ i⟩
section
variable {X : Cx} {pins : List (Addr × Obj)} {σ : L2.St} {H : Hp} {s : Shared} {d : Addr} {o : Obj} {vs : List Ent3} {w : World}
theorem frzX (I : Inv X pins σ H s) (h : H d = some (.frz o (rawO w d vs))) : s.heap.get? d = some o ∧ o.ExactDict ∧ ∃ (es : Array DictEntry) (ep : Nat), o.data = .dict es ep ∧ es.size = vs.length ∧
    ∀ (i : Nat) (e : Ent3), vs[i]? = some e → ∃ en : DictEntry, es[i]? = some en ∧ en.key = .ref e.2.1 := by
  obtain ⟨hd, ⟨xs, o', es, ep, r, e, c, dt, l⟩, _⟩ := I.hok d _ h
  rw [hd] at e
  cases e
  have ll : es.size = xs.length := by rw [← Array.length_toList, l, List.length_map]
  refine ⟨hd, c, es, ep, dt, by rw [ll]; exact (Paired.length r).symm, fun i y ey => ?_⟩
  obtain ⟨b, hb, e1, e2, _⟩ := paired_get r ey
  refine ⟨⟨b.1.hash w, .ref b.2.1, b.2.2⟩, ?_, ?_⟩
  · rw [← Array.getElem?_toList, l, List.getElem?_map, hb]
    rfl
  · show Value.ref b.2.1 = Value.ref y.2.1
    rw [e2]
end
section
variable {P : Program} {w w' : World} {K : PySem.W.Frag} {tg : Expr} {d : Addr} {o : Obj} {es : Array DictEntry} {ep : Nat} {vs : List Ent3}
theorem turn_keysX (it : Addr) (hod : o.data = .dict es ep) : Turn P w K tg (Itx w' d o vs) [it] it (fun i h => h.IsKeyIter it d i vs.length ep) where
  mem := by simp
  obj := fun i h st b hb => by
    have e : b = it := by simpa using hb
    subst e
    obtain ⟨oi, e, c, dd⟩ := st
    exact ⟨oi, e, fun v z => by rw [dd] at z; cases z⟩
  keep := fun i h h' st k => st.at fun oi e => k it (by simp) oi e
  item := by
    intro X hP hw hK hc i pins s σ H E I hf st hg
    subst hP hw hK
    obtain ⟨⟨hd, hs⟩, hi⟩ := hg
    obtain ⟨f0, f1, f2, f3, f4, f5⟩ := hf it (by simp)
    obtain ⟨hgd, hx, es', ep', hdt, hsz, ent⟩ := frzX I hd
    obtain ⟨rfl, rfl⟩ := dict_ep hod hdt
    obtain ⟨e, hkv⟩ : ∃ p, vs[i]? = some p := ⟨vs[i], List.getElem?_eq_getElem hi⟩
    obtain ⟨en, hen, hkey⟩ := ent i e hkv
    refine next_key_item st hgd hdt hsz hen fun h' st' sb => ?_
    have I1 : Inv X pins σ H { s with heap := h' } := I.turned (t' := s.toks) (fun b ob hb e => (sb.2 b hb).trans e) f0 f1 f3 f4 f5
    obtain ⟨oi, e2, c, dd⟩ := id st'
    exact ⟨en.key, rfl, go_of (s := { s with heap := h' }) e2 c dd (by decide) ⟨.ref e.2.1, H, I1, hkey, ⟨rfl, e, hkv, rfl⟩, st', fun b hb => (hf b hb).1⟩⟩
  done := by
    intro X hP hw hK hc i pins s σ H E I hf st hg
    subst hP hw hK
    obtain ⟨⟨hd, hs⟩, hi⟩ := hg
    obtain ⟨f0, f1, f2, f3, f4, f5⟩ := hf it (by simp)
    obtain ⟨hgd, hx, es', ep', hdt, hsz, ent⟩ := frzX I hd
    obtain ⟨rfl, rfl⟩ := dict_ep hod hdt
    exact next_key_end (I.ok.hd hc) st hgd hdt hsz hi fun h' eb => ⟨rfl, I.turned (t' := s.toks) (fun b ob hb e => eb b ob hb e) f0 f1 f3 f4 f5⟩
  self := fun A i s Q E st h => by
    refine wpAny_pyIter_slot st.typeIs F.slot_dict_keyiterator_iter (wpAny_call_entry F.slot_dict_keyiterator_iter st.typeIs F.entry_dict_keyiterator_iter ?_ (F.args_dict_keyiterator_iter_1 _))
    show wpAny _ _ (ret (.ref it)) _ _ s
    exact wpAny_pure ⟨_, rfl, "dict_keyiterator", _, st.typeIs, F.slot_dict_keyiterator_next.lookup, h⟩
end
/-- the keys of a locked dict, of either kind -/
def iKeysX (w : World) (td : TE) : TI := fun σ H R => td σ H fun x H1 => ∃ d o, x = .ref d ∧ ((∃ kvs, H1 d = some (.frz o (.dK kvs)) ∧ R (Itk d o kvs) H1) ∨ ∃ vs, H1 d = some (.frz o (rawO w d vs)) ∧ (d == sysModules) = false ∧ R (Itx w d o vs) H1)
theorem pi_keysX {X : Cx} {tg e : Expr} {td : TE} (he : PE X e td) : PI X tg e (iKeysX X.w td) := by
  refine ⟨fun pins s σ H R I h => ?_⟩
  refine thn (he.run pins s σ H _ I h) fun u s1 ⟨x, H1, I1, rx, d, o, ex, q⟩ => ?_
  subst ex
  obtain rfl : u = Value.ref d := rx
  rcases q with ⟨kvs, hd, q⟩ | ⟨vs, hd, hs, q⟩
  · obtain ⟨hs, hgd, hx, es, ep, vs, hdt, hsz, kv, hm⟩ := I1.frzK hd
    refine iter_keys hs hgd hx hdt (pi_one (tk := s1.toks) I1 _ (turn_keys _ hdt) ⟨_, Heap.get?_push_size _ rfl, rfl, ?_⟩ q)
    rw [hsz] <;> rfl
  · obtain ⟨hgd, hx, es, ep, hdt, hsz, ent⟩ := frzX I1 hd
    refine iter_keys hs hgd hx hdt (pi_one (tk := s1.toks) I1 _ (turn_keysX _ hdt) ⟨_, Heap.get?_push_size _ rfl, rfl, ?_⟩ q)
    rw [hsz] <;> rfl
/-- what e tells is locked, where it may be -/
def tFrz (t : TE) : TE := fun σ H Q => t σ H fun v H' => Q v H' ∨ ∃ d u, v = .ref d ∧ H' d = some u ∧ Mut (some u) ∧ ∀ od, Q v (upd H' d (.frz od u))
theorem pe_frz {X : Cx} {e : Expr} {t : TE} (h : PE X e t) : PE X e (tFrz t) := by
  refine ⟨fun pins s σ H Q I hw => ?_⟩
  refine thn (h.run pins s σ H _ I hw) fun v s1 ⟨x, H1, I1, r, q⟩ => ?_
  rcases q with q | ⟨d, u, ex, hd, mu, q⟩
  · exact ⟨x, H1, I1, r, q⟩
  · obtain ⟨od, I2⟩ := I1.lock hd mu
    exact ⟨x, _, I2, r, q od⟩
/-- a slot's thing is locked ahead of statements -/
def tFrzV (i : Nat) (t : TS) : TS := fun D σ H => t D σ H ∨ ∃ d u, σ[i]? = some (some (.ref d)) ∧ H d = some u ∧ Mut (some u) ∧ ∀ od, t D σ (upd H d (.frz od u))
theorem pss_frzV {X : Cx} {sts : List Stmt} {i : Nat} {t : TS} (h : PSs X sts t) : PSs X sts (tFrzV i t) := by
  refine ⟨fun pins s σ H D I hw => ?_⟩
  rcases hw with q | ⟨d, u, ex, hd, mu, q⟩
  · exact h.run pins s σ H D I q
  · obtain ⟨od, I2⟩ := I.lock hd mu
    exact h.run pins s σ _ D I2 (q od)
end Deep

/-! Ds: sums, greatest, sorted, ranges as lists, by the hand layer's values. -/
namespace Deep
open PySem PySem.Spec PySem.W L2 PyProof.Rows
section
variable {prog : Program} {w : World} {A : Around} {E : Value → Shared → Prop} {s : Shared} {l : Addr} {its : List Value} {ns : List Int} {Q : Value → Shared → Prop}
theorem sum_rawT (hh : A.handled = none) (hl : IsTup s.heap l its.toArray) (hi : IntsAre its ns)
    (h : ∀ h' tk t', (∀ b o, s.heap.get? b = some o → h'.get? b = some o) → Q (.int ns.sum t') { s with heap := h', toks := tk }) : wpAny (model prog w) A (call (.builtin "sum") [.ref l]) Q E s := by
  obtain ⟨xs, e⟩ := hi.allInts.items
  have hn : numsOf (intItems xs).toList = ns := by rw [← e]; exact hi.numsOf
  rw [nums_intItems] at hn
  rw [e] at hl
  have hl' : s.heap.IsTuple l (intItems xs) := hl
  have hlt : l < s.heap.objs.size := by obtain ⟨_, e, _⟩ := hl'; exact Heap.lt_size e
  refine call_sum_walkG (wpAny_pyIter_tuple hl' ?_)
  refine ⟨s.heap.objs.size, _, _, _, _, _, numAt xs, rfl, Walks.tuple (A := A.in1) hh _ l (Nat.ne_of_lt hlt) (intItems xs), ⟨⟨_, Heap.get?_push_size _ rfl, rfl, rfl⟩, hl'.push _⟩, fun b hb => ?_, (fun _ _ => intItems_at), fun h' tk t' hk => ?_⟩
  · show b < (s.heap.push _).objs.size
    rw [Heap.size_push]
    rcases List.mem_cons.mp hb with rfl | hb
    · exact Nat.lt_succ_self _
    · rcases List.mem_cons.mp hb with rfl | hb
      · exact Nat.lt_succ_of_lt hlt
      · cases hb
  · have := h h' tk t' (fun b o e => hk b o (fun hm => by
      have : b = s.heap.objs.size := by simpa using hm
      exact absurd (this ▸ Heap.lt_size e) (Nat.lt_irrefl _)) (Heap.get?_push_of_some _ e))
    rw [← hn] at this
    simpa [intItems, preSum_eq, List.take_of_length_le] using this
end
section
variable {X : Cx}
def rSumT (K : PySem.W.Frag) : List V → Hp → VK → Prop := fun vs H Q => ∃ (a : Addr) (ns : List Int), vs = [V.ref a] ∧ SqT K H a (ns.map V.int) ∧ Q (.int ns.sum) H
theorem cr_sumT (hc : X.calm = true) : CallR X (.builtin "sum") (rSumT X.K) := by
  intro pins s σ H vs us Q I r h
  obtain ⟨a, ns, rfl, hs, q⟩ := h
  obtain ⟨its, rv, hl, _⟩ := I.tuple hs
  rw [Vals.ref1 r]
  exact sum_rawT (I.ok.hd hc) hl rv.ints fun h' tk t' hk => ⟨.int _, H, I.kept hk, ⟨_, rfl⟩, q⟩
theorem reads_ints {h : Heap} : ∀ {ns : List Int} {us : List Value}, IntsAre us ns → ReadsAll h us (ns.map .int) []
  | _, _, .nil => .nil
  | _, _, .cons n t r => ReadsAll.cons (Reads.int n t) (reads_ints r)
theorem alike_all (ns : List Int) : AlikeAll (ns.map PyData.int) := ⟨fun x hx y hy => by
    obtain ⟨a, _, rfl⟩ := List.mem_map.mp hx
    obtain ⟨b, _, rfl⟩ := List.mem_map.mp hy
    simp only [alike], fun x hx => by
    obtain ⟨a, _, rfl⟩ := List.mem_map.mp hx
    exact fun z => nomatch z⟩
theorem depth_all : ∀ ns : List Int, PyData.depthAll (ns.map PyData.int) = 0
  | [] => by simp only [List.map_nil, PyData.depthAll]
  | n :: ns => by simp only [List.map_cons, PyData.depthAll, PyData.depth, depth_all ns, Nat.max_self]
theorem int_of_reads {h : Heap} {v : Value} {m : Int} {bs : List Addr} (r : Reads h v (.int m) bs) : RelV (.int m) v := by
  cases r
  exact ⟨_, rfl⟩
def rMaxT (K : PySem.W.Frag) : List V → Hp → VK → Prop := fun vs H Q => ∃ (a : Addr) (n : Int) (ns : List Int), vs = [V.ref a] ∧ SqT K H a ((n :: ns).map V.int) ∧ Q (.int (ns.foldl max n)) H
def rMinT (K : PySem.W.Frag) : List V → Hp → VK → Prop := fun vs H Q => ∃ (a : Addr) (n : Int) (ns : List Int), vs = [V.ref a] ∧ SqT K H a ((n :: ns).map V.int) ∧ Q (.int (ns.foldl min n)) H
theorem cr_maxT (hc : X.calm = true) (hu : X.A.units + 200 < cLine) : CallR X (.builtin "max") (rMaxT X.K) := by
  intro pins s σ H vs us Q I r h
  obtain ⟨a, n, ns, rfl, hs, q⟩ := h
  obtain ⟨its, rv, hl, _⟩ := I.tuple hs
  rw [Vals.ref1 r]
  have hi := rv.ints
  refine max_tuple_data (x := .int n) (xs := ns.map .int) (I.ok.hd hc) hl (by rw [List.toList_toArray]; exact reads_ints (ns := n :: ns) hi) (alike_all (n :: ns)) (by rw [← List.map_cons, depth_all]; omega) fun i v h' tk bs _ rr hk => ?_
  rw [maxD_ints] at rr
  exact ⟨.int _, H, I.kept hk, int_of_reads rr, q⟩
theorem cr_minT (hc : X.calm = true) (hu : X.A.units + 200 < cLine) : CallR X (.builtin "min") (rMinT X.K) := by
  intro pins s σ H vs us Q I r h
  obtain ⟨a, n, ns, rfl, hs, q⟩ := h
  obtain ⟨its, rv, hl, _⟩ := I.tuple hs
  rw [Vals.ref1 r]
  have hi := rv.ints
  refine min_tuple_data (x := .int n) (xs := ns.map .int) (I.ok.hd hc) hl (by rw [List.toList_toArray]; exact reads_ints (ns := n :: ns) hi) (alike_all (n :: ns)) (by rw [← List.map_cons, depth_all]; omega) fun i v h' tk bs _ rr hk => ?_
  rw [minD_ints] at rr
  exact ⟨.int _, H, I.kept hk, int_of_reads rr, q⟩
/-- max(list, default=z) -/
def rMaxDef (K : PySem.W.Frag) : List V → List V → Hp → VK → Prop := fun vs zs H Q => ∃ (a : Addr) (ns : List Int) (z : V), vs = [V.ref a] ∧ zs = [z] ∧ SqL K H a (ns.map V.int) ∧ (ns = [] → Q z H) ∧ ∀ n r, ns = n :: r → Q (.int (r.foldl max n)) H
theorem cr_maxDef (hc : X.calm = true) (hu : X.A.units + 200 < cLine) : CallRK X (.builtin "max") ["default"] (rMaxDef X.K) := by
  intro pins s σ H vs zs us ws Q I r rz h
  obtain ⟨a, ns, z, rfl, rfl, hs, q0, q1⟩ := h
  obtain ⟨its, rv, hl, _⟩ := I.list hs
  rw [Vals.ref1 r]
  obtain ⟨u, rfl, ru⟩ := vals1 rz
  have hi := rv.ints
  refine max_list_default (xs := ns.map .int) (I.ok.hd hc) hl.isList (by rw [List.toList_toArray]; exact reads_ints hi) (alike_all ns) (by rw [depth_all]; omega) (fun e h' tk hk => ?_) fun y ys i v h' tk bs e _ rr hk => ?_
  · exact ⟨z, H, I.kept hk, ru, q0 (List.map_eq_nil_iff.mp e)⟩
  · cases ns with
    | nil => cases e
    | cons n r =>
      rw [List.map_cons] at e
      cases e
      rw [maxD_ints] at rr
      exact ⟨.int _, H, I.kept hk, int_of_reads rr, q1 n r rfl⟩
/-! sorted -/
def sortVP (vs : List V) (ps : List PyData) : List V := ((vs.zip ps).mergeSort (dataLe false fun t : V × PyData => t.2)).map (·.1)
structure SortOk (ps : List PyData) : Prop where
  al : AllAlike ps
  so : PySem.W.Sortable ps
  z : ps.length ≤ sizeLine
  dp : ∀ p ∈ ps, p.depth ≤ 100
def rSortD (K : PySem.W.Frag) : List V → Hp → VK → Prop := fun xs H Q => ∃ (a : Addr) (vs : List V) (ps : List PyData), xs = [V.ref a] ∧ SqL K H a vs ∧ DpAll K H vs ps ∧ SortOk ps ∧ ∀ p, H p = none → Q (.ref p) (upd H p (.lst (sortVP vs ps)))
theorem each_of {K : PySem.W.Frag} {H : Hp} : ∀ {vs : List V} {us : List Value} {ps : List PyData}, Vals vs us → DpAll K H vs ps → EachIs (fun u (t : V × PyData) => RelV t.1 u ∧ Dp K H t.1 t.2) us (vs.zip ps)
  | _, _, _, .nil, .nil => .nil
  | _, _, _, .cons a b, .cons c d => .cons ⟨a, c⟩ (each_of b d)
theorem vals_of_each {K : PySem.W.Frag} {H : Hp} : ∀ {us : List Value} {ts : List (V × PyData)}, EachIs (fun u (t : V × PyData) => RelV t.1 u ∧ Dp K H t.1 t.2) us ts → Vals (ts.map (·.1)) us
  | _, _, .nil => .nil
  | _, _, .cons a b => .cons a.1 (vals_of_each b)
theorem dpAll_length {K : PySem.W.Frag} {H : Hp} : ∀ {vs : List V} {ps : List PyData}, DpAll K H vs ps → vs.length = ps.length
  | _, _, .nil => rfl
  | _, _, .cons _ b => by rw [List.length_cons, List.length_cons, dpAll_length b]
theorem cr_sortD (hu : X.A.units + 200 < cLine) : CallR X (.builtin "sorted") (rSortD X.K) := by
  intro pins s σ H xs us Q I r h
  obtain ⟨a, vs, ps, rfl, hs, hd, so, q⟩ := h
  obtain ⟨its, rv, hl, _⟩ := I.list hs
  rw [Vals.ref1 r]
  have l := dpAll_length hd
  have e := each_of rv hd
  have ez : (vs.zip ps).map (fun t : V × PyData => t.2) = ps := List.map_snd_zip (by omega)
  have lz : (vs.zip ps).length = ps.length := by rw [List.length_zip]; omega
  refine sorted_data (enc := fun t : V × PyData => t.2) (bs := vs.zip ps) (R := fun u t => RelV t.1 u ∧ Dp X.K H t.1 t.2) hl.isList e (e.mono fun u t z => Dp.reads I _ _ _ z.2 z.1) (by rw [ez]; exact so.al) (by rw [ez]; exact so.so) (by rw [lz]; exact so.z) (fun t ht => ?_) fun out lo eo => ?_
  · have : t.2 ∈ ps := by rw [← ez]; exact List.mem_map_of_mem ht
    have := so.dp _ this
    omega
  · have hp : H (s.heap.objs.size + 1) = none := I.hok.fresh (Nat.le_succ _)
    obtain ⟨c, hc⟩ := sortedAll_at s.heap its out.toArray
    have hv : Vals (sortVP vs ps) out := vals_of_each eo
    have new : ObjOk X.prog X.w (upd H (s.heap.objs.size + 1) (.lst (sortVP vs ps))) (sortedAll s.heap its out.toArray) (s.heap.objs.size + 1) (.lst (sortVP vs ps)) :=
      ⟨by rw [hv.length, lo, lz]; exact so.z, out, c, hv, hc⟩
    exact ⟨.ref (s.heap.objs.size + 1), _, I.laid (t' := s.toks) (fun b o z => sortedAll_old z) (Nat.le_succ _) new, rfl, q _ hp⟩
/-! list(range(n)) -/
def rngV (lo : Int) : Nat → List V
  | 0 => []
  | n + 1 => .int lo :: rngV (lo + 1) n
theorem rngV_vals : ∀ (n : Nat) (lo : Int) (us : List Value), us.length = n → (∀ (j : Nat) (v : Value), us[j]? = some v → ∃ t, v = Value.int (lo + j * 1) t) → Vals (rngV lo n) us
  | 0, lo, us, hl, _ => by
    have : us = [] := List.eq_nil_of_length_eq_zero hl
    subst this
    exact .nil
  | n + 1, lo, us, hl, hv => by
    cases us with
    | nil => cases hl
    | cons u us =>
      obtain ⟨t, e⟩ := hv 0 u rfl
      refine .cons ⟨t, by rw [e]; simp⟩ (rngV_vals n (lo + 1) us (by simpa using hl) fun j v hj => ?_)
      obtain ⟨t, e⟩ := hv (j + 1) v (by simpa using hj)
      refine ⟨t, by rw [e]; congr 1; rw [Int.natCast_add]; omega⟩
def rRange1 : List V → Hp → VK → Prop := fun xs H Q => ∃ j : Int, xs = [.int j] ∧ ∀ p, H p = none → Q (.ref p) (upd H p (.rng 0 j))
theorem cr_range1 : CallR X (.type "range") rRange1 := by
  intro pins s σ H vs us Q I r h
  obtain ⟨j, rfl, q⟩ := h
  obtain ⟨u, rfl, ru⟩ := vals1 r
  obtain ⟨t, rfl⟩ := ru
  refine call_range_1 ⟨.ref s.heap.objs.size, upd H s.heap.objs.size (.rng 0 j), I.laid (t' := s.toks + 1 + 1) (fun b o e => Heap.get?_push_of_some _ e) (Nat.le_refl _) ?_, rfl, q _ (I.hok.fresh (Nat.le_refl _))⟩
  exact ⟨s.toks, t, s.toks + 1, Heap.get?_push_size _ rfl⟩
def rLRng : List V → Hp → VK → Prop := fun xs H Q => ∃ (a : Addr) (j : Int), xs = [.ref a] ∧ H a = some (.rng 0 j) ∧ -(2 ^ 62) ≤ j ∧ j < 2 ^ 62 ∧ j.toNat ≤ 2 ^ 24 ∧ ∀ p, H p = none → Q (.ref p) (upd H p (.lst (rngV 0 j.toNat)))
theorem size_one (j : Int) : Builtin.Range.rangeSize 0 j 1 = (j.toNat : Int) := by
  unfold Builtin.Range.rangeSize
  split <;> split <;> omega
theorem cr_lrng (hc : X.calm = true) : CallR X (.type "list") rLRng := by
  intro pins s σ H vs us Q I r h
  obtain ⟨a, j, rfl, ha, h1, h2, h3, q⟩ := h
  obtain ⟨u, rfl, ru⟩ := vals1 r
  cases ru
  obtain ⟨t, u, v, e⟩ := (show ObjOk X.prog X.w H s.heap a (.rng 0 j) from I.hok a _ ha)
  refine call_list_range (n := j.toNat) (I.ok.hd hc) e (small_one (by decide) (by decide) h1 h2) (size_one j) h3 fun h' tk acc' c' hk hn it => ?_
  have hv : Vals (rngV 0 j.toNat) acc'.toList := rngV_vals _ _ _ (by rw [Array.length_toList]; exact it.1) fun i v hi => it.2 i v (by rw [← Array.getElem?_toList]; exact hi)
  have new : ObjOk X.prog X.w (upd H s.heap.objs.size (.lst (rngV 0 j.toNat))) h' s.heap.objs.size (.lst (rngV 0 j.toNat)) := ⟨by rw [hv.length, Array.length_toList, it.1]; exact h3, acc'.toList, c', hv, hn⟩
  exact ⟨.ref s.heap.objs.size, _, I.laid (t' := tk) hk (Nat.le_refl _) new, rfl, q _ (I.hok.fresh (Nat.le_refl _))⟩
/-! dict(d), its keys tuples -/
theorem call_dictH {prog : Program} {w : World} {K : Type} [DecidableEq K] {knd : HeapKind prog w K} {A : Around} {E : Value → Shared → Prop} {s : Shared} {o : Addr} {more : List (K × Addr × Value)} {Q : Value → Shared → Prop} (hu : knd.room A.in1.in1) (hoS : (o == sysModules) = false) (ho : s.heap.DictOfH knd o more) (hsz : more.length ≤ sizeLine)
    (hty : ∀ x ∈ more, s.TypeIs (.ref x.2.1) "tuple") (hap : (more.map fun x => knd.hash x.1).Nodup) (hst : ∀ x ∈ more, knd.is (s.heap.push { cls := .type "dict", data := .dict #[] }) x.1 x.2.1)
    (h : ∀ h', h'.DictOfH knd s.heap.objs.size more → Heap.SameBut s.heap.objs.size (s.heap.push { cls := .type "dict", data := .dict #[] }) h' → Q (.ref s.heap.objs.size) { s with heap := h' }) :
    wpAny (model prog w) A (call (.type "dict") [.ref o]) Q E s := by
  refine callType_codes (Q₁ := fun obj s₁ => obj = .ref s.heap.objs.size ∧ s₁ = { s with heap := s.heap.push { cls := .type "dict", data := .dict #[] } }) F.kt_called_dict (F.kt_typeCall_dict_1 _) F.entry_dict_init (kt_code_dict_new _ ⟨rfl, rfl⟩) ?_
  rintro obj s₁ ⟨rfl, rfl⟩
  have hnew : (s.heap.push { cls := .type "dict", data := .dict #[] }).DictOfH knd s.heap.objs.size [] := Heap.DictOfH.new s.heap
  obtain ⟨od, es, ep, g1, g2, g3, g4, _, g6⟩ := id ho
  have ho' : (s.heap.push { cls := .type "dict", data := .dict #[] }).DictOfH knd o more := ⟨od, es, ep, Heap.get?_push_of_some _ g1, g2, g3, g4, hst, g6⟩
  have hdo : s.heap.objs.size ≠ o := fun e => absurd (Heap.lt_size g1) (by rw [e]; exact Nat.lt_irrefl _)
  refine ⟨hnew.typeIs, F.args_dict_init_2 _ _, ?_⟩
  unfold Builtin.«dict.__init__»
  refine wpAny_bind ?_
  unfold Builtin.Dict.selfAndRest
  refine wpAny_bind (wpAny_notOrdered_dict hnew.typeIs ?_)
  show wpAny _ _ (pure (s.heap.objs.size, [Value.ref o])) _ _ _
  refine wpAny_pure ?_
  show wpAny _ _ (Builtin.Dict.updateFrom "dict.__init__" s.heap.objs.size (.ref o) [] .none) _ _ _
  refine updateFrom_dictH (s := { s with heap := s.heap.push { cls := .type "dict", data := .dict #[] } }) (kvs := []) (R := wants (fun r s' => r = Value.none ∧ Q (.ref s.heap.objs.size) s') E) .none hu hdo hoS hnew ho' (.inr ⟨fun x hx => ?_, hap⟩) (by simpa using hsz) fun h' hd' _ hs' => ?_
  · obtain ⟨oo, h1, h2⟩ := hty x hx
    exact ⟨oo, Heap.get?_push_of_some _ h1, h2⟩
  · rw [storedAllH_nil_of_nodup more g6] at hd'
    exact ⟨rfl, h h' hd' hs'⟩
def rCopyX (K : PySem.W.Frag) (w : World) : List V → Hp → VK → Prop := fun xs H Q => ∃ (a : Addr) (vs : List Ent3), xs = [.ref a] ∧ RdX K w H a vs ∧ (vs.map fun x => x.1.hash w).Nodup ∧ (∀ x ∈ vs, ∃ ks, x.1 = .tup ks) ∧ ∀ p, H p = none → (p == sysModules) = false → Q (.ref p) (upd H p (rawO w p vs))
theorem cr_copyX (hu : X.A.units + 200 < cLine) : CallR X (.type "dict") (rCopyX X.K X.w) := by
  intro pins s σ H xs us Q I r h
  obtain ⟨a, vs, rfl, g, nd, tup, q⟩ := h
  obtain ⟨u, rfl, ru⟩ := vals1 r
  cases ru
  obtain ⟨xs, rel, dd⟩ := dx_of I g
  have I2 : Inv X pins σ H { s with heap := s.heap.push { cls := .type "dict", data := .dict #[] } } := I.kept (t' := s.toks) fun b ob z => Heap.get?_push_of_some _ z
  obtain ⟨xs2, rel2, dd2⟩ := dx_of I2 g
  have is2 : ∀ x ∈ xs, (nestedKind X.prog X.w).is (s.heap.push { cls := .type "dict", data := .dict #[] }) x.1 x.2.1 := fun x hx => by
    obtain ⟨y, hy, e1, e2⟩ := rel.addr x hx
    rw [← e1, ← e2]
    exact key_is I2 (g.2.ks y hy)
  have hh : (xs.map fun x => (nestedKind X.prog X.w).hash x.1).Nodup := by
    have e : (xs.map fun x => (nestedKind X.prog X.w).hash x.1) = vs.map fun x => x.1.hash X.w := by
      have := congrArg (List.map fun k : NKey => k.hash X.w) rel.keys
      rw [List.map_map, List.map_map] at this
      exact this.symm
    rw [e]
    exact nd
  have hty : ∀ x ∈ xs, s.TypeIs (.ref x.2.1) "tuple" := fun x hx => by
    obtain ⟨y, hy, e1, e2⟩ := rel.addr x hx
    obtain ⟨ks, ek⟩ := tup y hy
    have z := (key_is I (g.2.ks y hy)).1
    rw [ek, e2] at z
    cases z with
    | tup h1 h2 _ _ => exact ⟨_, h1, h2⟩
  have rm : (nestedKind X.prog X.w).room X.A.in1.in1 := by
    show X.A.units + 1 + 1 + 8 < cLine
    omega
  refine call_dictH rm g.2.ns dd (by rw [← Paired.length rel]; exact g.2.z) hty hh is2 fun h' dd' hs => ?_
  have hk : ∀ b ob, s.heap.get? b = some ob → h'.get? b = some ob := fun b ob z => (hs.2 b (Nat.ne_of_lt (Heap.lt_size z))).trans (Heap.get?_push_of_some _ z)
  exact ⟨.ref s.heap.objs.size, _, I.laid (a := s.heap.objs.size) (t' := s.toks) hk (Nat.le_refl _) (raw_ok (raw_of rel dd')), rfl, q _ (I.hok.fresh (Nat.le_refl _)) (big_ns I)⟩
/-! {k: v}, the key a tuple -/
theorem wpAny_Dict_oneH {prog : Program} {w : World} {K : Type} [DecidableEq K] {knd : HeapKind prog w K} {A : Around} {E : Value → Shared → Prop} {s : Shared} {env : Env} {k v : Expr} {pos : Pos} {Q : Value → Shared → Prop} (hu : knd.room A)
    (h : wpAny (model prog w) A (eval k env) (fun kv s₁ => wpAny (model prog w) A (eval v env) (fun vv s₂ => ∃ a kk, kv = .ref a ∧ knd.is s₂.heap kk a ∧ s₂.heap.DictOfH knd s.heap.objs.size [] ∧
      ∀ h' tk, h'.DictOfH knd s.heap.objs.size [(kk, a, vv)] → Heap.SameBut s.heap.objs.size s₂.heap h' → Q (.ref s.heap.objs.size) { s₂ with heap := h', toks := tk }) E s₁) E
      { s with heap := s.heap.push { cls := .type "dict", data := .dict #[] } }) :
    wpAny (model prog w) A (eval (.Dict [some k] [v] pos) env) Q E s := by
  have sh : (evalEachOpt [some k] env).zip ((evalEach [v] env).map fun v => do let x ← v; standAt pos; pure x) = (pairTrees [some k] [v] env pos).map fun p => (some p.1, p.2) := zip_pairTrees [some k] [v] env pos rfl rfl
  rw [arm_eval_Dict, sh, dictDisplay_pairs _ (by intro z; cases z) (by show 1 < 17; decide)]
  refine wpAny_bind (wpAny_standAt (wpAny_bind ?_))
  unfold subDict
  refine wpAny_bind (wpAny_alloc ?_)
  refine wpAny_bind (wpAny_holding ?_)
  rw [if_pos (by show 1 ≤ 15; decide)]
  refine wpAny_bind ?_
  refine pairTrees_cons_walk (wpAny_mono h (fun kv s₁ h₁ => wpAny_mono h₁ (fun vv s₂ h₂ => pairTrees_nil_walk ?_) fun _ _ e => e) fun _ _ e => e)
  obtain ⟨a, kk, rfl, hk, hm, hq⟩ := h₂
  refine wpAny_holding ?_
  refine wpAny_bind ?_
  rw [List.forIn_cons]
  refine wpAny_bind (wpAny_bind (wpAny_dictSet_heap (hsz := by simp) hu hk hm fun h₁ hm₁ hs₁ => wpAny_pure ?_))
  dsimp only
  rw [List.forIn_nil]
  refine wpAny_pure (wpAny_pure (wpAny_pure (wpAny_pure ?_)))
  exact hq h₁ _ (by simpa [storedH, atKey] using hm₁) hs₁
def tDisp1 (w : World) (K : PySem.W.Frag) (tk tv : TE) : TE := fun σ H Q => ∀ p, H p = none → (p == sysModules) = false → tk σ (upd H p (rawO w p [])) fun x H1 => tv σ H1 fun y H2 => H2 p = some (rawO w p []) ∧ ∃ k b, KeyX K H2 x k b ∧ Q (.ref p) (upd H2 p (rawO w p [(k, b, y)]))
theorem pe_disp1 {pos : Pos} {k v : Expr} {tk tv : TE} (hu : X.A.units + 200 < cLine) (hk : PE X k tk) (hv : PE X v tv) : PE X (.Dict [some k] [v] pos) (tDisp1 X.w X.K tk tv) := by
  refine ⟨fun pins s σ H Q I q => ?_⟩
  have hn := I.hok.fresh (Nat.le_refl s.heap.objs.size)
  have ns := big_ns I
  have I1 := I.laid (a := s.heap.objs.size) (o := rawO X.w s.heap.objs.size []) (t' := s.toks) (fun _ _ z => Heap.get?_push_of_some _ z) (Nat.le_refl _) (raw_ok (raw_empty s.heap))
  have rm : (nestedKind X.prog X.w).room X.A := by
    show X.A.units + 8 < cLine
    omega
  refine wpAny_Dict_oneH (knd := nestedKind X.prog X.w) rm (thn (hk.run pins _ σ _ _ I1 (q _ hn ns)) fun kv s1 ⟨x, H1, I2, rx, q1⟩ => thn (hv.run pins s1 σ H1 _ I2 q1) fun vv s2 ⟨y, H2, I3, ry, e, kk, b, hx, q2⟩ => ?_)
  obtain ⟨rfl, hd⟩ := hx
  cases (show kv = Value.ref b from rx)
  have g : RdX X.K X.w H2 s.heap.objs.size [] := ⟨.inl e, ⟨Nat.zero_le _, ns, List.nodup_nil, fun _ z => nomatch z⟩⟩
  obtain ⟨xs, rel, dd⟩ := dx_of I3 g
  cases rel
  refine ⟨b, kk, rfl, key_is I3 hd, dd, fun h' tk dd' hs => ?_⟩
  obtain ⟨oo, es, ep, hq, _⟩ := id dd'
  have rel' : PX [(kk, b, y)] [(kk, b, vv)] := .cons ⟨rfl, rfl, ry⟩ .nil
  exact ⟨.ref s.heap.objs.size, _, d_write (t' := tk) I3 (by rw [e]; exact True.intro) hs ⟨oo, hq⟩ (raw_ok (raw_of rel' dd')), rfl, q2⟩
/-! d == {} -/
theorem same_empty {prog : Program} {w : World} {A : Around} {E : Value → Shared → Prop} {s : Shared} {nm : String} {a b : Addr} {oa ob : Obj} {es es' : Array DictEntry} {ep ep' : Nat} {Q : Bool → Shared → Prop} (ha : (a == sysModules) = false) (hb : (b == sysModules) = false)
    (hoa : s.heap.get? a = some oa) (hda : oa.data = .dict es ep) (hob : s.heap.get? b = some ob) (hdb : ob.data = .dict es' ep') (h0 : es.size = 0 ∨ es'.size = 0) (h : Q (es.size == es'.size) s) :
    wpAny (model prog w) A (Builtin.Dict.samePairs nm a b) Q E s := by
  unfold Builtin.Dict.samePairs Builtin.Dict.showsAll
  rw [if_neg (show ¬ (a == sysModules) = true by rw [ha]; exact Bool.false_ne_true), if_neg (show ¬ (b == sysModules) = true by rw [hb]; exact Bool.false_ne_true)]
  refine wpAny_bind (wpAny_pure (wpAny_bind (wpAny_pure ?_)))
  refine wpAny_bind (wpAny_dictEntries hoa hda ?_)
  dsimp only
  refine wpAny_bind (wpAny_dictEntries hob hdb ?_)
  by_cases hsz : es.size = es'.size
  case neg =>
    rw [if_pos (by simpa using hsz)]
    have hbf : (es.size == es'.size) = false := by simpa using hsz
    rw [hbf] at h
    exact wpAny_bind (wpAny_rule (wpAny_pure h))
  case pos =>
    have hz : es.size = 0 := by omega
    have h' : Q true s := by simpa [hsz] using h
    rw [if_neg (by rw [hsz]; simp)]
    refine wpAny_bind (wpAny_dictEpoch hoa hda ?_)
    refine wpAny_bind ?_
    rw [Std.Legacy.Range.forIn_eq_forIn_range']
    simp only [Std.Legacy.Range.size, Nat.sub_zero, Nat.add_sub_cancel, Nat.div_one, hz, List.range'_zero, List.forIn_nil]
    exact wpAny_pure (wpAny_pure h')
def rEqX (K : PySem.W.Frag) (w : World) (n : Bool) : R2 := fun x y H Q => ∃ a b vs us, x = .ref a ∧ y = .ref b ∧ RdX K w H a vs ∧ RdX K w H b us ∧ (vs = [] ∨ us = []) ∧ Q (.bl (if n = true then !(vs.length == us.length) else (vs.length == us.length))) H
theorem op_eqX (hu : X.A.units + 200 < cLine) : OpR X (compareOp .Eq) (rEqX X.K X.w false) := by
  intro pins s σ H x y v u Q I rx ry h
  obtain ⟨a, b, vs, us, rfl, rfl, ga, gb, h0, q⟩ := h
  cases rx; cases ry
  obtain ⟨xs, rel, da⟩ := dx_of I ga
  obtain ⟨ys, rel', db⟩ := dx_of I gb
  refine wpAny_richCompare_same_room (op := .Eq) da.typeIs db.typeIs PySem.F.slot_dict_eq (wpAny_call_entry PySem.F.slot_dict_eq da.typeIs PySem.F.entry_dict_eq ?_ (PySem.F.args_dict_eq_2 _ _)) (by omega)
  show wpAny _ _ (Builtin.Dict.dictSlotArgs "__eq__" ⟨[.ref a, .ref b], []⟩ >>= _) _ _ s
  refine wpAny_bind ?_
  unfold Builtin.Dict.dictSlotArgs
  refine wpAny_bind (wpAny_notOrdered_dict da.typeIs ?_)
  show wpAny _ _ (pure (Value.ref a, Value.ref b)) _ _ s
  refine wpAny_pure ?_
  refine wpAny_bind (wpAny_isInstance (T := "dict") db.typeIs PySem.F.sub_dict_dict ?_)
  simp only [Bool.not_true, Bool.false_eq_true, if_false]
  refine wpAny_bind (wpAny_pure (wpAny_bind (wpAny_pure ?_)))
  obtain ⟨oa, es, ep, h1, _, h2, h3, _⟩ := da
  obtain ⟨ob, es', ep', k1, _, k2, k3, _⟩ := db
  have l1 : es.size = vs.length := by rw [size_of_entries h3]; exact (Paired.length rel).symm
  have l2 : es'.size = us.length := by rw [size_of_entries k3]; exact (Paired.length rel').symm
  refine wpAny_bind (same_empty ga.2.ns gb.2.ns h1 h2 k1 k2 (h0.imp (fun z => by rw [l1, z]; rfl) fun z => by rw [l2, z]; rfl) ?_)
  refine wpAny_pure ⟨_, rfl, ?_, ?_⟩
  · exact fun x => nomatch x
  · rw [l1, l2]
    exact ⟨.bl _, H, I, rfl, by simpa using q⟩
theorem op_neX (hu : X.A.units + 200 < cLine) : OpR X (compareOp .NotEq) (rEqX X.K X.w true) := by
  intro pins s σ H x y v u Q I rx ry h
  obtain ⟨a, b, vs, us, rfl, rfl, ga, gb, h0, q⟩ := h
  cases rx; cases ry
  obtain ⟨xs, rel, da⟩ := dx_of I ga
  obtain ⟨ys, rel', db⟩ := dx_of I gb
  refine wpAny_richCompare_same_room (op := .NotEq) da.typeIs db.typeIs PySem.F.slot_dict_ne (wpAny_call_entry PySem.F.slot_dict_ne da.typeIs PySem.F.entry_dict_ne ?_ (PySem.F.args_dict_ne_2 _ _)) (by omega)
  show wpAny _ _ (Builtin.Dict.dictSlotArgs "__ne__" ⟨[.ref a, .ref b], []⟩ >>= _) _ _ s
  refine wpAny_bind ?_
  unfold Builtin.Dict.dictSlotArgs
  refine wpAny_bind (wpAny_notOrdered_dict da.typeIs ?_)
  show wpAny _ _ (pure (Value.ref a, Value.ref b)) _ _ s
  refine wpAny_pure ?_
  refine wpAny_bind (wpAny_isInstance (T := "dict") db.typeIs PySem.F.sub_dict_dict ?_)
  simp only [Bool.not_true, Bool.false_eq_true, if_false]
  refine wpAny_bind (wpAny_pure (wpAny_bind (wpAny_pure ?_)))
  obtain ⟨oa, es, ep, h1, _, h2, h3, _⟩ := da
  obtain ⟨ob, es', ep', k1, _, k2, k3, _⟩ := db
  have l1 : es.size = vs.length := by rw [size_of_entries h3]; exact (Paired.length rel).symm
  have l2 : es'.size = us.length := by rw [size_of_entries k3]; exact (Paired.length rel').symm
  refine wpAny_bind (same_empty ga.2.ns gb.2.ns h1 h2 k1 k2 (h0.imp (fun z => by rw [l1, z]; rfl) fun z => by rw [l2, z]; rfl) ?_)
  refine wpAny_pure ⟨_, rfl, ?_, ?_⟩
  · exact fun x => nomatch x
  · rw [l1, l2]
    exact ⟨.bl _, H, I, rfl, by simpa using q⟩
end
theorem tuple_mul1 (l : Addr) (items : Array Value) (n : Nat) (dd : Option Addr) (sl : Array (Option Value)) (x : Int) (u : Tok) (c0 : (decide (x < -(2 ^ 63)) || decide (x ≥ 2 ^ 63)) = false) (c1 : (items.isEmpty || x == 1) = true) :
    Meets (Builtin.«tuple.__mul__» ⟨[.ref l, .int x u], []⟩) (fun _ R s => s.heap.get? l = some { cls := .type "tuple", dict := dd, data := .seq items n, slots := sl } ∧ R (.ok (.ret (Value.ref l))) s) :=
  .of_wp fun prog w A R s h => by
    obtain ⟨hp, g, d, tk, os⟩ := s
    obtain ⟨hl, h⟩ := h
    have f1 := AutoSeq1.idx_int
    wp_walk using wpAny_loadPart' hl
    repeat (first
      | (refine wpAny_ite_false (decide_eq_false (by rw [c0]; exact Bool.false_ne_true)) ?_; wp_walk using wpAny_loadPart' hl)
      | (refine wpAny_ite_true (decide_eq_true c1) ?_; wp_walk using wpAny_loadPart' hl))
    exact ⟨_, rfl, h⟩
theorem tuple_mul0 (l : Addr) (items : Array Value) (n : Nat) (dd : Option Addr) (sl : Array (Option Value)) (x : Int) (u : Tok) (c0 : (decide (x < -(2 ^ 63)) || decide (x ≥ 2 ^ 63)) = false) (c1 : (items.isEmpty || x == 1) = false) (c2 : (decide (x ≤ 0) || items.isEmpty) = true) :
    Meets (Builtin.«tuple.__mul__» ⟨[.ref l, .int x u], []⟩) (fun _ R s => s.heap.get? l = some { cls := .type "tuple", dict := dd, data := .seq items n, slots := sl } ∧
      R (.ok (.ret (Value.ref s.heap.objs.size))) { s with heap := s.heap.push { cls := Value.type "tuple", data := Data.seq #[] }, toks := s.toks }) :=
  .of_wp fun prog w A R s h => by
    obtain ⟨hp, g, d, tk, os⟩ := s
    obtain ⟨hl, h⟩ := h
    have f1 := AutoSeq1.idx_int
    wp_walk using wpAny_loadPart' hl
    repeat (first
      | (refine wpAny_ite_false (decide_eq_false (by rw [c0]; exact Bool.false_ne_true)) ?_; wp_walk using wpAny_loadPart' hl)
      | (refine wpAny_ite_false (decide_eq_false (by rw [c1]; exact Bool.false_ne_true)) ?_; wp_walk using wpAny_loadPart' hl)
      | (refine wpAny_ite_true (decide_eq_true c2) ?_; wp_walk using wpAny_loadPart' hl))
    exact ⟨_, rfl, h⟩
def rRepA (K : PySem.W.Frag) : R2 := fun x y H Q => ∃ l k xs, x = .ref l ∧ y = .int k ∧ SqT K H l xs ∧ xs ≠ [] ∧ 0 ≤ k ∧ k ≤ 1000 ∧ xs.length ≤ 1000 ∧ (k = 1 → Q (.ref l) H) ∧ (k ≠ 1 → ∀ p, H p = none → Q (.ref p) (upd H p (.tup (List.replicate k.toNat xs).flatten)))
theorem op_repA {X : Cx} : OpR X (binaryOp .Mult) (rRepA X.K) := by
  intro pins s σ H x y v u Q I rx ry h
  obtain ⟨l, k, xs, rfl, rfl, hT, hne, h1, h2, hz, q1, q2⟩ := h
  by_cases hk : 2 ≤ k
  · exact op_repT pins s σ H _ _ v u Q I rx ry ⟨l, k, xs, rfl, rfl, hT, hne, hk, h2, hz, q2 (by omega)⟩
  cases rx
  obtain ⟨t, rfl⟩ := ry
  obtain ⟨its, r, ⟨⟨cls, dd, data, sl⟩, ho, hc, n, hd⟩, hs⟩ := I.tuple hT
  simp only at hc hd
  subst hc hd
  have hle : its.length = xs.length := r.length.symm
  have hn : its ≠ [] := fun e => hne (by
    rw [e] at hle
    exact List.eq_nil_of_length_eq_zero hle.symm)
  have hi : its.toArray.isEmpty = false := by
    cases its with
    | nil => exact absurd rfl hn
    | cons a b => rfl
  have c0 : (decide (k < -(2 ^ 63)) || decide (k ≥ 2 ^ 63)) = false := by
    rw [decide_eq_false (by omega), decide_eq_false (by omega)] <;> rfl
  by_cases hk1 : k = 1
  · have c1 : (its.toArray.isEmpty || k == 1) = true := by rw [hk1]; simp
    exact wpAny_binaryOp_repeat_ref (T := "tuple") (U := "int") (by decide) ⟨_, ho, rfl⟩ (fun s' => typeIs_int s' k t) noFill_tuple_mul F.fills_int_mul F.slot_int_rmul repeat_tuple F.slot_int_index.lookup
      (call_meets F.slot_int_rmul (typeIs_int s k t) F.entry_int_rmul (F.args_int_rmul_2 _ _) (int_rmul_tuple k t l its.toArray n dd sl)
        ⟨ho, rfl, ⟨_, ho, rfl⟩, call_meets F.slot_tuple_mul ⟨_, ho, rfl⟩ F.entry_tuple_mul (F.args_tuple_mul_2 _ _) (tuple_mul1 l its.toArray n dd sl k t c0 c1) ⟨ho, ⟨.ref l, H, I, rfl, q1 hk1⟩⟩⟩)
  · have hk0 : k = 0 := by omega
    have c1 : (its.toArray.isEmpty || k == 1) = false := by
      rw [hi, Bool.false_or]
      exact beq_eq_false_iff_ne.mpr hk1
    have c2 : (decide (k ≤ 0) || its.toArray.isEmpty) = true := by rw [hk0]; simp
    have q := q2 hk1 s.heap.objs.size (I.hok.fresh (Nat.le_refl _))
    rw [hk0] at q
    have new : ObjOk X.prog X.w (upd H s.heap.objs.size (.tup [])) (s.heap.push { cls := Value.type "tuple", data := Data.seq #[] }) s.heap.objs.size (.tup []) := ⟨Nat.zero_le _, [], .nil, ⟨_, Heap.get?_push_size _ rfl, rfl, _, rfl⟩⟩
    exact wpAny_binaryOp_repeat_ref (T := "tuple") (U := "int") (by decide) ⟨_, ho, rfl⟩ (fun s' => typeIs_int s' k t) noFill_tuple_mul F.fills_int_mul F.slot_int_rmul repeat_tuple F.slot_int_index.lookup
      (call_meets F.slot_int_rmul (typeIs_int s k t) F.entry_int_rmul (F.args_int_rmul_2 _ _) (int_rmul_tuple k t l its.toArray n dd sl)
        ⟨ho, rfl, ⟨_, ho, rfl⟩, call_meets F.slot_tuple_mul ⟨_, ho, rfl⟩ F.entry_tuple_mul (F.args_tuple_mul_2 _ _) (tuple_mul0 l its.toArray n dd sl k t c0 c1 c2) ⟨ho, ⟨.ref s.heap.objs.size, _, I.laid (t' := s.toks) (fun b o e => Heap.get?_push_of_some _ e) (Nat.le_refl _) new, rfl, q⟩⟩⟩)
/-! sorted(d), its keys tuples -/
def rSortX (K : PySem.W.Frag) (w : World) : List V → Hp → VK → Prop := fun xs H Q => ∃ (a : Addr) (vs : List Ent3), xs = [V.ref a] ∧ RdX K w H a vs ∧ SortOk (vs.map fun x => x.1.data) ∧ ∀ p, H p = none → Q (.ref p) (upd H p (.lst (sortVP (vs.map fun x => V.ref x.2.1) (vs.map fun x => x.1.data))))
theorem dpAll_keys {K : PySem.W.Frag} {H : Hp} : ∀ {vs : List Ent3}, (∀ x ∈ vs, Dp K H (.ref x.2.1) x.1.data ∧ x.1.depth ≤ 8) → DpAll K H (vs.map fun x => V.ref x.2.1) (vs.map fun x => x.1.data)
  | [], _ => .nil
  | x :: vs, h => .cons (h x (List.mem_cons_self ..)).1 (dpAll_keys fun y hy => h y (List.mem_cons_of_mem _ hy))
theorem vals_keys {vs : List Ent3} {us : List Value} (hl : us.length = vs.length) (h : ∀ (j : Nat) (e : Ent3), vs[j]? = some e → us[j]? = some (.ref e.2.1)) : Vals (vs.map fun x => V.ref x.2.1) us := by
  induction vs generalizing us with
  | nil =>
    have : us = [] := List.eq_nil_of_length_eq_zero hl
    subst this
    exact .nil
  | cons e vs ih =>
    cases us with
    | nil => cases hl
    | cons u us =>
      have e0 := h 0 e rfl
      simp only [List.getElem?_cons_zero, Option.some.injEq] at e0
      subst e0
      exact .cons rfl (ih (by simpa using hl) fun j y hy => by simpa using h (j + 1) y (by simpa using hy))
theorem cr_sortX {X : Cx} (hc : X.calm = true) (hu : X.A.units + 200 < cLine) : CallR X (.builtin "sorted") (rSortX X.K X.w) := by
  intro pins s σ H xs us Q I r h
  obtain ⟨a, vs, rfl, g, so, q⟩ := h
  rw [Vals.ref1 r]
  obtain ⟨ys, rel, dd⟩ := dx_of I g
  obtain ⟨o, es, ep, ho, hx, hd, he, his, hn⟩ := id dd
  have ls : es.size = vs.length := by rw [size_of_entries he]; exact (Paired.length rel).symm
  have hsz : es.size ≤ sizeLine := by rw [ls]; exact g.2.z
  refine Calls.call_function_entry kind_sorted plain_sorted entry_sorted (args_sorted1 _) ?_
  unfold Builtin.«sorted»
  refine wpAny_bind (m := checkCount "sorted" 1 1 _) (wpAny_pure ?_)
  refine wpAny_bind (kdu_collect (A := X.A.in1) (KdlSrc.rawDict g.2.ns) (I.ok.hd hc) ⟨o, ho, hx, hd⟩ hsz fun h' tk acc hk hacc => ?_)
  have hl : acc.toList.length = vs.length := by rw [Array.length_toList, hacc.1, ls]
  refine wpAny_bind (wpAny_newList ?_ (by rw [hl]; exact g.2.z))
  have rv : Vals (vs.map fun x => V.ref x.2.1) acc.toList := by
    refine vals_keys hl fun j e hj => ?_
    have hjl : j < acc.toList.length := by
      rw [hl]
      rcases Nat.lt_or_ge j vs.length with z | z
      · exact z
      · rw [List.getElem?_eq_none z] at hj; cases hj
    rw [List.getElem?_eq_getElem hjl]
    obtain ⟨hi, ev⟩ := hacc.2 j (acc.toList[j]) (by rw [← Array.getElem?_toList, List.getElem?_eq_getElem hjl])
    obtain ⟨b, hb, e1, e2, _⟩ := paired_get rel hj
    have en := entry_at he j
    rw [hb, Array.getElem?_eq_getElem hi] at en
    have en2 := congrArg (fun x : DictEntry => x.key) (Option.some.inj en)
    rw [ev, en2]
    show some (Value.ref b.2.1) = _
    rw [e2]
  have hdp := dpAll_keys g.2.ks
  have e := each_of rv hdp
  have lz : ((vs.map fun x => V.ref x.2.1).zip (vs.map fun x => x.1.data)).length = vs.length := by rw [List.length_zip, List.length_map, List.length_map]; omega
  have ez : ((vs.map fun x => V.ref x.2.1).zip (vs.map fun x => x.1.data)).map (fun t : V × PyData => t.2) = vs.map fun x => x.1.data := List.map_snd_zip (by rw [List.length_map, List.length_map]; omega)
  have I2 : Inv X pins σ H { s with heap := h', toks := tk } := I.kept hk
  have hp : H h'.objs.size = none := I2.hok.fresh (Nat.le_refl _)
  let B := h'.objs.size
  let h1 := h'.push { cls := .type "list", data := .seq acc.toList.toArray }
  have go : wpAny (model X.prog X.w) X.A.in1 (call (.builtin "list.sort") [.ref B]) (fun _ s' => EP X pins σ Q (.ref B) s') X.xe { s with heap := h1, toks := tk } := by
    refine list_sort_data (s := { s with heap := h1, toks := tk }) (a := B) (n := 0) (vs := acc.toList) (enc := fun t : V × PyData => t.2) (bs := (vs.map fun x => V.ref x.2.1).zip (vs.map fun x => x.1.data)) (R := fun u t => RelV t.1 u ∧ Dp X.K H t.1 t.2) (Heap.get?_push_size _ rfl) e
      (e.mono fun u t z => ?_) (by rw [ez]; exact so.al) (by rw [ez]; exact so.so) (by rw [lz]; exact g.2.z) (fun t ht => ?_) fun out lo eo => ?_
    · obtain ⟨as, rd⟩ := Dp.reads I2 _ _ _ z.2 z.1
      refine ⟨as, PyProof.Rows.Reads.keeps (fun _ _ w => Heap.get?_push_of_some _ w) rd, fun hm => ?_⟩
      obtain ⟨oo, ho'⟩ := PyProof.On.reads_mem_get rd _ hm
      exact absurd (Heap.lt_size ho') (Nat.lt_irrefl _)
    · have : t.2 ∈ vs.map fun x => x.1.data := by rw [← ez]; exact List.mem_map_of_mem ht
      have := so.dp _ this
      show X.A.units + 1 + 1 + t.2.depth < cLine
      omega
    · obtain ⟨c, hcc⟩ := sortedHeap_at (h := h1) (a := B) (vs := acc.toList) (n := 0) (out := out.toArray) (Heap.get?_push_size _ rfl)
      have hv : Vals (sortVP (vs.map fun x => V.ref x.2.1) (vs.map fun x => x.1.data)) out := vals_of_each eo
      have new : ObjOk X.prog X.w (upd H B (.lst (sortVP (vs.map fun x => V.ref x.2.1) (vs.map fun x => x.1.data)))) (sortedHeap h1 B acc.toList out.toArray) B (.lst (sortVP (vs.map fun x => V.ref x.2.1) (vs.map fun x => x.1.data))) :=
        ⟨by rw [hv.length, lo, lz]; exact g.2.z, out, c, hv, hcc⟩
      refine ⟨.ref B, _, I2.laid (t' := tk) (fun b oo z => ?_) (Nat.le_refl _) new, rfl, q _ hp⟩
      have hlt := Heap.lt_size z
      show (sortedHeap h1 B acc.toList out.toArray).get? b = some oo
      rw [sortedHeap_old (Nat.ne_of_lt hlt) (by show b < (h'.push _).objs.size; rw [size_push']; exact Nat.lt_succ_of_lt hlt)]
      exact Heap.get?_push_of_some _ z
  refine wpAny_bind (wpAny_holding (wpAny_mono go (fun _ s' x => ?_) fun _ _ e => e))
  exact wpAny_pure ⟨_, rfl, x⟩
end Deep

/-! Deep: values as data (tuples are values), readings over them. -/
namespace Deep
open PySem L2

/-- data: a tuple, a frozen list by their items; ref: a tracked object; box: two ints that only the law's draw may change; ty: a built-in class; scr: the script -/
inductive D where
  | non | bl (b : Bool) | int (i : Int) | str (x : Str)
  | tup (xs : List D)
  | lst (xs : List D)
  | dk (ks : List Key) (xs : List D)
  | dt (ks xs : List D)
  | ref (a : Addr)
  | box (a : Addr)
  | ty (n : String)
  | scr (ns : List Int)
  deriving Inhabited
def kD : Key → D
  | .inl i => .int i
  | .inr x => .str x

/-- the module's objects, the world -/
structure FW where
  K : PySem.W.Frag
  w : World
instance : CoeOut FW PySem.W.Frag := ⟨FW.K⟩
mutual
/-- data that are a key -/
def dKey : D → Option NKey
  | .non => some .none
  | .int i => some (.num i)
  | .str x => some (.text x)
  | .tup xs => (dKeys xs).map .tup
  | _ => none
def dKeys : List D → Option (List NKey)
  | [] => some []
  | x :: xs => match dKey x, dKeys xs with
    | some y, some ys => some (y :: ys)
    | _, _ => none
end
mutual
/-- a key as data -/
def keyD : NKey → D
  | .none => .non
  | .num i => .int i
  | .text x => .str x
  | .tup ks => .tup (keyDs ks)
def keyDs : List NKey → List D
  | [] => []
  | k :: ks => keyD k :: keyDs ks
end
mutual
theorem dKey_keyD : ∀ k : NKey, dKey (keyD k) = some k
  | .none => by simp only [keyD, dKey]
  | .num i => by simp only [keyD, dKey]
  | .text x => by simp only [keyD, dKey]
  | .tup ks => by simp only [keyD, dKey, dKeys_keyDs ks, Option.map_some]
theorem dKeys_keyDs : ∀ ks : List NKey, dKeys (keyDs ks) = some ks
  | [] => by simp only [keyDs, dKeys]
  | k :: ks => by simp only [keyDs, dKeys, dKey_keyD k, dKeys_keyDs ks]
end
mutual
theorem keyD_of : ∀ (d : D) {k : NKey}, dKey d = some k → d = keyD k
  | .non, k, h => by simp only [dKey, Option.some.injEq] at h; subst h; simp only [keyD]
  | .int i, k, h => by simp only [dKey, Option.some.injEq] at h; subst h; simp only [keyD]
  | .str i, k, h => by simp only [dKey, Option.some.injEq] at h; subst h; simp only [keyD]
  | .tup xs, k, h => by
    simp only [dKey, Option.map_eq_some_iff] at h
    obtain ⟨ks, e, rfl⟩ := h
    simp only [keyD]
    rw [keyDs_of xs e]
  | .bl _, k, h => by simp [dKey] at h
  | .lst _, k, h => by simp [dKey] at h
  | .dk _ _, k, h => by simp [dKey] at h
  | .dt _ _, k, h => by simp [dKey] at h
  | .ref _, k, h => by simp [dKey] at h
  | .box _, k, h => by simp [dKey] at h
  | .ty _, k, h => by simp [dKey] at h
  | .scr _, k, h => by simp [dKey] at h
theorem keyDs_of : ∀ (ds : List D) {ks : List NKey}, dKeys ds = some ks → ds = keyDs ks
  | [], ks, h => by simp only [dKeys, Option.some.injEq] at h; subst h; simp only [keyDs]
  | d :: ds, ks, h => by
    simp only [dKeys] at h
    split at h
    · rename_i y ys e1 e2
      cases h
      simp only [keyDs]
      rw [← keyD_of d e1, ← keyDs_of ds e2]
    · cases h
end
/-- the ghost: what stands frozen at an address -/
inductive GK where
  | tup (xs : List V) | lst (xs : List V) | box | scr (ns : List Int) | dk (o : Obj) (kvs : List (Key × V)) | dt (o : Obj) (vs : List Ent3)
abbrev Gho := Addr → Option GK
/-- a tracked object -/
inductive MO where
  | lst (xs : List D)
  | dK (kvs : List (Key × D))
  | dT (kvs : List (NKey × D))
  | ins (C : Addr) (fs : List (Str × D))
abbrev DH := Addr → Option MO
abbrev DSt := List (Option D)

def KTup (K : PySem.W.Frag) (a : Addr) (xs : List V) : Prop :=
  ∃ (o : Obj) (its : Array Value) (n : Nat), K.lookup a = some o ∧ o.cls = .type "tuple" ∧ o.data = .seq its n ∧ its.size ≤ sizeLine ∧ Vals xs its.toList

def KLst (K : PySem.W.Frag) (a : Addr) (xs : List V) : Prop :=
  ∃ (o : Obj) (its : Array Value) (n : Nat), K.lookup a = some o ∧ o.cls = .type "list" ∧ o.dict = none ∧ o.data = .seq its n ∧ its.size ≤ sizeLine ∧ Vals xs its.toList

mutual
inductive RD (K : FW) (G : Gho) : V → D → Prop
  | non : RD K G .non .non
  | bl (b : Bool) : RD K G (.bl b) (.bl b)
  | int (i : Int) : RD K G (.int i) (.int i)
  | str (x : Str) : RD K G (.str x) (.str x)
  | tup {a : Addr} {xs : List V} {ds : List D} : G a = some (.tup xs) ∨ KTup K a xs → RDs K G xs ds → RD K G (.ref a) (.tup ds)
  | lst {a : Addr} {xs : List V} {ds : List D} : G a = some (.lst xs) → RDs K G xs ds → RD K G (.ref a) (.lst ds)
  | dk {a : Addr} {o : Obj} {ks : List Key} {vs : List V} {ds : List D} : G a = some (.dk o (ks.zip vs)) → ks.length = vs.length → RDs K G vs ds → RD K G (.ref a) (.dk ks ds)
  | dt {a : Addr} {o : Obj} {vs : List Ent3} {ks ds : List D} : G a = some (.dt o vs) → dKeys ks = some (vs.map (·.1)) → RDs K G (vs.map fun x => V.ref x.2.1) ks → RDs K G (vs.map (·.2.2)) ds → RD K G (.ref a) (.dt ks ds)
  | ref (a : Addr) : RD K G (.ref a) (.ref a)
  | box {a : Addr} : G a = some .box → RD K G (.ref a) (.box a)
  | ty (n : String) : RD K G (.ty n) (.ty n)
  | scr {a : Addr} {ns : List Int} : G a = some (.scr ns) ∨ KLst K a (ns.map V.int) → RD K G (.ref a) (.scr ns)
inductive RDs (K : FW) (G : Gho) : List V → List D → Prop
  | nil : RDs K G [] []
  | cons {v : V} {vs : List V} {d : D} {ds : List D} : RD K G v d → RDs K G vs ds → RDs K G (v :: vs) (d :: ds)
end

/-- the ghost grows -/
def GE (G G' : Gho) : Prop := ∀ a k, G a = some k → G' a = some k
theorem GE.refl (G : Gho) : GE G G := fun _ _ h => h
theorem GE.trans {G G1 G2 : Gho} (h : GE G G1) (h' : GE G1 G2) : GE G G2 := fun a k e => h' a k (h a k e)

section
variable {K : FW} {G G' : Gho}
mutual
theorem RD.mono (e : GE G G') : ∀ (d : D) {v : V}, RD K G v d → RD K G' v d
  | .non, _, h => by cases h; exact .non
  | .bl b, _, h => by cases h; exact .bl b
  | .int b, _, h => by cases h; exact .int b
  | .str b, _, h => by cases h; exact .str b
  | .tup ds, _, h => by
    cases h with
    | tup g r => exact .tup (g.imp (e _ _) id) (RDs.mono e ds r)
  | .lst ds, _, h => by
    cases h with
    | lst g r => exact .lst (e _ _ g) (RDs.mono e ds r)
  | .dk ks ds, _, h => by
    cases h with
    | dk g l r => exact .dk (e _ _ g) l (RDs.mono e ds r)
  | .dt ks ds, _, h => by
    cases h with
    | dt g l r r' => exact .dt (e _ _ g) l (RDs.mono e ks r) (RDs.mono e ds r')
  | .ref a, _, h => by cases h; exact .ref a
  | .box a, _, h => by cases h with | box g => exact .box (e _ _ g)
  | .ty a, _, h => by cases h; exact .ty a
  | .scr a, _, h => by cases h with | scr g => exact .scr (g.imp (e _ _) id)
theorem RDs.mono (e : GE G G') : ∀ (ds : List D) {vs : List V}, RDs K G vs ds → RDs K G' vs ds
  | [], _, h => by cases h; exact .nil
  | d :: ds, _, h => by
    cases h with
    | cons h1 h2 => exact .cons (RD.mono e d h1) (RDs.mono e ds h2)
end
theorem RDs.length : ∀ {vs : List V} {ds : List D}, RDs K G vs ds → vs.length = ds.length
  | _, _, .nil => rfl
  | _, _, .cons _ t => by rw [List.length_cons, List.length_cons, RDs.length t]
theorem RDs.get : ∀ {vs : List V} {ds : List D} {i : Nat} {d : D}, RDs K G vs ds → ds[i]? = some d → ∃ v, vs[i]? = some v ∧ RD K G v d
  | _, _, _, _, .nil, e => by simp at e
  | _, _, 0, _, .cons r _, e => by simp at e; subst e; exact ⟨_, by simp, r⟩
  | _, _, i + 1, d, .cons _ t, e => by
    obtain ⟨v, h1, h2⟩ := RDs.get (i := i) (d := d) t (by simpa using e)
    exact ⟨v, by simpa using h1, h2⟩
theorem RDs.getV : ∀ {vs : List V} {ds : List D} {i : Nat} {v : V}, RDs K G vs ds → vs[i]? = some v → ∃ d, ds[i]? = some d ∧ RD K G v d
  | _, _, _, _, .nil, e => by simp at e
  | _, _, 0, _, .cons r _, e => by simp at e; subst e; exact ⟨_, by simp, r⟩
  | _, _, i + 1, v, .cons _ t, e => by
    obtain ⟨d, h1, h2⟩ := RDs.getV (i := i) (v := v) t (by simpa using e)
    exact ⟨d, by simpa using h1, h2⟩
theorem RDs.append : ∀ {vs ws : List V} {ds es : List D}, RDs K G vs ds → RDs K G ws es → RDs K G (vs ++ ws) (ds ++ es)
  | _, _, _, _, .nil, s => s
  | _, _, _, _, .cons r t, s => .cons r (RDs.append t s)
theorem RDs.take : ∀ {vs : List V} {ds : List D} (n : Nat), RDs K G vs ds → RDs K G (vs.take n) (ds.take n)
  | _, _, 0, _ => .nil
  | _, _, _ + 1, .nil => .nil
  | _, _, n + 1, .cons r t => .cons r (RDs.take n t)
theorem RDs.drop : ∀ {vs : List V} {ds : List D} (n : Nat), RDs K G vs ds → RDs K G (vs.drop n) (ds.drop n)
  | _, _, 0, r => r
  | _, _, _ + 1, .nil => .nil
  | _, _, n + 1, .cons _ t => RDs.drop n t
theorem RDs.set {v : V} {d : D} (r : RD K G v d) : ∀ {vs : List V} {ds : List D} (i : Nat), RDs K G vs ds → RDs K G (vs.set i v) (ds.set i d)
  | _, _, _, .nil => .nil
  | _, _, 0, .cons _ t => .cons r t
  | _, _, i + 1, .cons q t => .cons q (RDs.set r i t)
theorem RDs.eraseIdx : ∀ {vs : List V} {ds : List D} (i : Nat), RDs K G vs ds → RDs K G (vs.eraseIdx i) (ds.eraseIdx i)
  | _, _, _, .nil => .nil
  | _, _, 0, .cons _ t => t
  | _, _, i + 1, .cons q t => .cons q (RDs.eraseIdx i t)
theorem RDs.reverse {vs : List V} {ds : List D} (h : RDs K G vs ds) : RDs K G vs.reverse ds.reverse := by
  induction vs generalizing ds with
  | nil => cases h; exact .nil
  | cons v vs ih =>
    cases h with
    | cons a b =>
      rw [List.reverse_cons, List.reverse_cons]
      exact RDs.append (ih b) (.cons a .nil)
theorem RDs.of_keys : ∀ (ks : List Key), RDs K G (ks.map kV) (ks.map kD)
  | [] => .nil
  | .inl i :: ks => .cons (.int i) (RDs.of_keys ks)
  | .inr i :: ks => .cons (.str i) (RDs.of_keys ks)
theorem RDs.keys {vs : List V} : ∀ {ks : List Key}, RDs K G vs (ks.map kD) → vs = ks.map kV := by
  intro ks h
  induction ks generalizing vs with
  | nil => cases h; rfl
  | cons k ks ih =>
    cases h with
    | cons a b =>
      cases k with
      | inl i => cases a; rw [List.map_cons, ih b]; rfl
      | inr i => cases a; rw [List.map_cons, ih b]; rfl
/-- ints are read off -/
theorem RDs.ints {vs : List V} : ∀ {ns : List Int}, RDs K G vs (ns.map D.int) → vs = ns.map V.int := by
  intro ns h
  induction ns generalizing vs with
  | nil => cases h; rfl
  | cons n ns ih =>
    cases h with
    | cons a b =>
      cases a
      rw [List.map_cons, ih b]
theorem RDs.of_ints : ∀ (ns : List Int), RDs K G (ns.map V.int) (ns.map D.int)
  | [] => .nil
  | n :: ns => .cons (.int n) (RDs.of_ints ns)
theorem RDs.strs {vs : List V} : ∀ {ns : List Str}, RDs K G vs (ns.map D.str) → vs = ns.map V.str := by
  intro ns h
  induction ns generalizing vs with
  | nil => cases h; rfl
  | cons n ns ih =>
    cases h with
    | cons a b =>
      cases a
      rw [List.map_cons, ih b]
theorem RDs.bls {vs : List V} : ∀ {ns : List Bool}, RDs K G vs (ns.map D.bl) → vs = ns.map V.bl := by
  intro ns h
  induction ns generalizing vs with
  | nil => cases h; rfl
  | cons n ns ih =>
    cases h with
    | cons a b =>
      cases a
      rw [List.map_cons, ih b]
end

/-- a box's two ints -/
def BoxOk (c s : Int) : Prop := 0 ≤ c ∧ 1 ≤ s ∧ s ≤ 2147483629
structure DtOk (a : Addr) (vs : List Ent3) : Prop where
  z : vs.length ≤ sizeLine
  ns : (a == sysModules) = false
  nd : (vs.map (·.1)).Nodup
  dp : ∀ x ∈ vs, x.1.depth ≤ 8
def GOk (w : World) (H : Hp) (a : Addr) : GK → Prop
  | .tup xs => H a = some (.tup xs)
  | .lst xs => H a = some (.lst xs)
  | .scr ns => Rd H a (.lst (ns.map V.int))
  | .dk o kvs => H a = some (.frz o (.dK kvs))
  | .dt o vs => H a = some (.frz o (rawO w a vs)) ∧ DtOk a vs
  | .box => ∃ c s, H a = some (.lst [.int c, .int s]) ∧ BoxOk c s
inductive RKs {κ : Type} (K : FW) (G : Gho) : List (κ × V) → List (κ × D) → Prop
  | nil : RKs K G [] []
  | cons {k : κ} {v : V} {vs : List (κ × V)} {d : D} {ds : List (κ × D)} : RD K G v d → RKs K G vs ds → RKs K G ((k, v) :: vs) ((k, d) :: ds)
theorem RKs.mono {κ : Type} {K : FW} {G G' : Gho} (e : GE G G') : ∀ {vs : List (κ × V)} {ds : List (κ × D)}, RKs K G vs ds → RKs K G' vs ds
  | _, _, .nil => .nil
  | _, _, .cons a b => .cons (RD.mono e _ a) (RKs.mono e b)
/-- the entries of a dict whose keys are tuples -/
inductive RXs (K : FW) (G : Gho) : List Ent3 → List (NKey × D) → Prop
  | nil : RXs K G [] []
  | cons {k : NKey} {b : Addr} {v : V} {vs : List Ent3} {d : D} {ds : List (NKey × D)} : RD K G (.ref b) (keyD k) → RD K G v d → RXs K G vs ds → RXs K G ((k, b, v) :: vs) ((k, d) :: ds)
theorem RXs.mono {K : FW} {G G' : Gho} (e : GE G G') : ∀ {vs : List Ent3} {ds : List (NKey × D)}, RXs K G vs ds → RXs K G' vs ds
  | _, _, .nil => .nil
  | _, _, .cons a b c => .cons (RD.mono e _ a) (RD.mono e _ b) (RXs.mono e c)
def MOk (K : FW) (G : Gho) (H : Hp) (a : Addr) : MO → Prop
  | .lst ds => ∃ vs, H a = some (.lst vs) ∧ RDs K G vs ds
  | .dK kvs => ∃ vs, H a = some (.dK vs) ∧ RKs K G vs kvs
  | .dT kvs => ∃ vs, H a = some (rawO K.w a vs) ∧ DtOk a vs ∧ RXs K G vs kvs
  | .ins C fs => ∃ dx vs, H a = some (.ins C dx vs) ∧ RKs K G vs fs
structure Sim (K : FW) (G : Gho) (dh : DH) (hid H : Hp) : Prop where
  g : ∀ a k, G a = some k → GOk K.w H a k
  d : ∀ a o, dh a = some o → G a = none ∧ MOk K G H a o
  h : ∀ a o, hid a = some o → G a = none ∧ dh a = none ∧ H a = some o
def RS (K : FW) (G : Gho) (σ : L2.St) (ds : DSt) : Prop := σ.length = ds.length ∧ ∀ (i : Nat) (d : D), ds[i]? = some (some d) → ∃ v : V, σ[i]? = some (some v) ∧ RD K G v d

def updD (dh : DH) (a : Addr) (o : MO) : DH := fun b => if b = a then some o else dh b
def delD (dh : DH) (a : Addr) : DH := fun b => if b = a then none else dh b
theorem updD_same {dh : DH} {a : Addr} {o : MO} : updD dh a o a = some o := by unfold updD; rw [if_pos rfl]
theorem updD_ne {dh : DH} {a b : Addr} {o : MO} (h : b ≠ a) : updD dh a o b = dh b := by unfold updD; rw [if_neg h]
theorem updD_upd {dh : DH} {a : Addr} {o u : MO} : updD (updD dh a o) a u = updD dh a u := by
  funext b; unfold updD; split <;> rfl
/-- less is known -/
def Sub (dh dh' : DH) : Prop := ∀ a o, dh a = some o → dh' a = some o
theorem Sub.refl (dh : DH) : Sub dh dh := fun _ _ h => h
theorem Sub.trans {a b c : DH} (h : Sub a b) (h' : Sub b c) : Sub a c := fun x o e => h' x o (h x o e)
theorem Sub.new {dh : DH} {p : Addr} {o : MO} (h : dh p = none) : Sub dh (updD dh p o) := fun a u e => by
  by_cases ha : a = p
  · subst ha; rw [h] at e; cases e
  · rw [updD_ne ha]; exact e
theorem neD_none {dh : DH} {a b : Addr} {o : MO} (h : dh a = some o) (h' : dh b = none) : a ≠ b := by
  intro e; subst e; rw [h] at h'; cases h'

section
variable {K : FW} {G G' : Gho} {dh dh' : DH} {hid H H' : Hp} {σ : L2.St} {ds : DSt} {p : Addr} {o : MO} {u : HO}
theorem Sub.none {a : Addr} (h : Sub dh dh') (e : dh' a = none) : dh a = none := by
  cases q : dh a with
  | none => rfl
  | some k => rw [h a k q] at e; cases e
theorem Sim.sub (s : Sim K G dh' hid H) (h : Sub dh dh') : Sim K G dh hid H := ⟨s.g, fun a o e => s.d a o (h a o e), fun a o e => ⟨(s.h a o e).1, h.none (s.h a o e).2.1, (s.h a o e).2.2⟩⟩
theorem RS.mono (e : GE G G') (r : RS K G σ ds) : RS K G' σ ds := ⟨r.1, fun i d h => let ⟨v, a, b⟩ := r.2 i d h; ⟨v, a, RD.mono e d b⟩⟩
theorem MOk.mono {a : Addr} {o : MO} (e : GE G G') (h : MOk K G H a o) : MOk K G' H a o := by
  cases o with
  | lst ds => obtain ⟨vs, a, b⟩ := h; exact ⟨vs, a, RDs.mono e _ b⟩
  | dK ds => obtain ⟨vs, a, b⟩ := h; exact ⟨vs, a, b.mono e⟩
  | dT ds => obtain ⟨vs, a, c, b⟩ := h; exact ⟨vs, a, c, b.mono e⟩
  | ins C ds => obtain ⟨dx, vs, a, b⟩ := h; exact ⟨dx, vs, a, b.mono e⟩
/-- the heap may change where nothing is known -/
theorem GOk.keep {w : World} {a : Addr} {k : GK} (h : GOk w H a k) (e : ∀ o, H a = some o → H' a = some o) : GOk w H' a k := by
  cases k with
  | tup xs => exact e _ h
  | lst xs => exact e _ h
  | scr xs => rcases h with h | ⟨o, h⟩; exact .inl (e _ h); exact .inr ⟨o, e _ h⟩
  | box => obtain ⟨c, s, a, b⟩ := h; exact ⟨c, s, e _ a, b⟩
  | dk o kvs => exact e _ h
  | dt o kvs => exact ⟨e _ h.1, h.2⟩
theorem MOk.keep {a : Addr} {o : MO} (h : MOk K G H a o) (e : ∀ o, H a = some o → H' a = some o) : MOk K G H' a o := by
  cases o with
  | lst ds => obtain ⟨vs, a, b⟩ := h; exact ⟨vs, e _ a, b⟩
  | dK ds => obtain ⟨vs, a, b⟩ := h; exact ⟨vs, e _ a, b⟩
  | dT ds => obtain ⟨vs, a, c, b⟩ := h; exact ⟨vs, e _ a, c, b⟩
  | ins C ds => obtain ⟨dx, vs, a, b⟩ := h; exact ⟨dx, vs, e _ a, b⟩
theorem GOk.there {w : World} {a : Addr} {k : GK} (h : GOk w H a k) : ∃ o, H a = some o := by
  cases k with
  | tup xs => exact ⟨_, h⟩
  | lst xs => exact ⟨_, h⟩
  | scr xs => rcases h with h | ⟨o, h⟩; exact ⟨_, h⟩; exact ⟨_, h⟩
  | box => obtain ⟨c, s, a, b⟩ := h; exact ⟨_, a⟩
  | dk o kvs => exact ⟨_, h⟩
  | dt o kvs => exact ⟨_, h.1⟩
theorem MOk.there {a : Addr} {o : MO} (h : MOk K G H a o) : ∃ o, H a = some o := by
  cases o with
  | lst ds => obtain ⟨vs, a, b⟩ := h; exact ⟨_, a⟩
  | dK ds => obtain ⟨vs, a, b⟩ := h; exact ⟨_, a⟩
  | dT ds => obtain ⟨vs, a, b⟩ := h; exact ⟨_, a⟩
  | ins C ds => obtain ⟨dx, vs, a, b⟩ := h; exact ⟨_, a⟩
theorem Sim.grow (s : Sim K G dh hid H) (e : ∀ a o, H a = some o → H' a = some o) : Sim K G dh hid H' := ⟨fun a k h => (s.g a k h).keep (e a), fun a o h => ⟨(s.d a o h).1, (s.d a o h).2.keep (e a)⟩, fun a o h => ⟨(s.h a o h).1, (s.h a o h).2.1, e a o (s.h a o h).2.2⟩⟩
theorem Sim.gnone (s : Sim K G dh hid H) {p : Addr} (hp : H p = none) : G p = none := by
  cases q : G p with
  | none => rfl
  | some k =>
    obtain ⟨o, ho⟩ := (s.g p k q).there
    rw [hp] at ho; cases ho
theorem Sim.dnone (s : Sim K G dh hid H) {p : Addr} (hp : H p = none) : dh p = none := by
  cases q : dh p with
  | none => rfl
  | some k =>
    obtain ⟨o, ho⟩ := (s.d p k q).2.there
    rw [hp] at ho; cases ho
theorem Sim.hnone (s : Sim K G dh hid H) {p : Addr} (hp : H p = none) : hid p = none := by
  cases q : hid p with
  | none => rfl
  | some k =>
    have ho := (s.h p k q).2.2
    rw [hp] at ho; cases ho
theorem neH {a p : Addr} {o : HO} (h : hid a = some o) (h' : hid p = none) : a ≠ p := by
  intro e; subst e; rw [h] at h'; cases h'
theorem Sim.neHD (s : Sim K G dh hid H) {a p : Addr} {o : HO} {k : MO} (h : hid a = some o) (h' : dh p = some k) : a ≠ p := by
  intro e; subst e; rw [(s.h _ _ h).2.1] at h'; cases h'
theorem Sim.neHG (s : Sim K G dh hid H) {a p : Addr} {o : HO} {k : GK} (h : hid a = some o) (h' : G p = some k) : a ≠ p := by
  intro e; subst e; rw [(s.h _ _ h).1] at h'; cases h'
theorem grows {p : Addr} {o : HO} (hp : H p = none) : ∀ a u, H a = some u → upd H p o a = some u := fun a u e => by
  rw [upd_ne (ne_of_none e hp)]; exact e
def updG (G : Gho) (a : Addr) (k : GK) : Gho := fun b => if b = a then some k else G b
theorem updG_same {a : Addr} {k : GK} : updG G a k a = some k := by unfold updG; rw [if_pos rfl]
theorem updG_ne {a b : Addr} {k : GK} (h : b ≠ a) : updG G a k b = G b := by unfold updG; rw [if_neg h]
theorem GE.new {a : Addr} {k : GK} (h : G a = none) : GE G (updG G a k) := fun b u e => by
  by_cases hb : b = a
  · subst hb; rw [h] at e; cases e
  · rw [updG_ne hb]; exact e
/-- a new frozen thing is laid -/
theorem Sim.newG (s : Sim K G dh hid H) {p : Addr} {o : HO} {k : GK} (hp : H p = none) (h : GOk K.w (upd H p o) p k) : Sim K (updG G p k) dh hid (upd H p o) ∧ GE G (updG G p k) := by
  have gp := s.gnone hp
  have e := GE.new (k := k) gp
  have dp := s.dnone hp
  have s' := s.grow (grows (o := o) hp)
  have hp' := s.hnone hp
  refine ⟨⟨fun a u hu => ?_, fun a u hu => ?_, fun a u hu => ?_⟩, e⟩
  · by_cases ha : a = p
    · subst ha; rw [updG_same] at hu; cases hu; exact h
    · rw [updG_ne ha] at hu; exact s'.g a u hu
  · have ha : a ≠ p := neD_none hu dp
    rw [updG_ne ha]
    exact ⟨(s'.d a u hu).1, (s'.d a u hu).2.mono e⟩
  · rw [updG_ne (neH hu hp')]
    exact s'.h a u hu
/-- a new tracked thing is laid -/
theorem Sim.newD (s : Sim K G dh hid H) {p : Addr} {o : HO} {k : MO} (hp : H p = none) (h : MOk K G (upd H p o) p k) : Sim K G (updD dh p k) hid (upd H p o) := by
  have s' := s.grow (grows (o := o) hp)
  have hp' := s.hnone hp
  refine ⟨s'.g, fun a u hu => ?_, fun a u hu => ?_⟩
  · by_cases ha : a = p
    · subst ha; rw [updD_same] at hu; cases hu; exact ⟨s.gnone hp, h⟩
    · rw [updD_ne ha] at hu; exact s'.d a u hu
  · rw [updD_ne (neH hu hp')]
    exact s'.h a u hu
/-- a tracked thing is changed -/
theorem Sim.write (s : Sim K G dh hid H) {p : Addr} {o : HO} {k k' : MO} (hd : dh p = some k) (h : MOk K G (upd H p o) p k') : Sim K G (updD dh p k') hid (upd H p o) := by
  have gp := (s.d p k hd).1
  refine ⟨fun a u hu => ?_, fun a u hu => ?_, fun a u hu => ?_⟩
  rotate_left 2
  · have ha := s.neHD hu hd
    rw [updD_ne ha, upd_ne ha]
    exact s.h a u hu
  · have ha : a ≠ p := by intro e; subst e; rw [gp] at hu; cases hu
    exact (s.g a u hu).keep fun o e => by rw [upd_ne ha]; exact e
  · by_cases ha : a = p
    · subst ha; rw [updD_same] at hu; cases hu; exact ⟨gp, h⟩
    · rw [updD_ne ha] at hu
      exact ⟨(s.d a u hu).1, (s.d a u hu).2.keep fun o e => by rw [upd_ne ha]; exact e⟩
/-- a box is written -/
theorem Sim.boxW (s : Sim K G dh hid H) {p : Addr} {c t : Int} (hg : G p = some .box) (hb : BoxOk c t) : Sim K G dh hid (upd H p (.lst [.int c, .int t])) := by
  refine ⟨fun a u hu => ?_, fun a u hu => ?_, fun a u hu => ?_⟩
  · by_cases ha : a = p
    · subst ha; rw [hg] at hu; cases hu; exact ⟨c, t, upd_same, hb⟩
    · exact (s.g a u hu).keep fun o e => by rw [upd_ne ha]; exact e
  · have ha : a ≠ p := by intro e; subst e; rw [(s.d _ _ hu).1] at hg; cases hg
    exact ⟨(s.d a u hu).1, (s.d a u hu).2.keep fun o e => by rw [upd_ne ha]; exact e⟩
  · have ha := s.neHG hu hg
    rw [upd_ne ha]
    exact s.h a u hu
/-- what is tracked is taken into the ground, by k -/
theorem Sim.ground (s : Sim K G dh' hid H) {p : Addr} {o : MO} {k : GK} (hd : dh' p = some o) (hk : GOk K.w H p k) (hs : Sub dh dh') (hp : dh p = none) :
    GE G (updG G p k) ∧ Sim K (updG G p k) dh hid H := by
  have gp := (s.d p _ hd).1
  have e := GE.new (k := k) gp
  refine ⟨e, fun a u hu => ?_, fun a u hu => ?_, fun a u hu => ?_⟩
  · by_cases ha : a = p
    · subst ha; rw [updG_same] at hu; cases hu; exact hk
    · rw [updG_ne ha] at hu; exact s.g a u hu
  · have ha : a ≠ p := neD_none hu hp
    rw [updG_ne ha]
    have q := s.d a u (hs a u hu)
    exact ⟨q.1, q.2.mono e⟩
  · have ha := s.neHD hu hd
    rw [updG_ne ha]
    exact ⟨(s.h a u hu).1, hs.none (s.h a u hu).2.1, (s.h a u hu).2.2⟩
theorem Sim.freeze (s : Sim K G dh' hid H) {p : Addr} {xs : List D} (hd : dh' p = some (.lst xs)) (hs : Sub dh dh') (hp : dh p = none) :
    ∃ G', GE G G' ∧ Sim K G' dh hid H ∧ RD K G' (.ref p) (.lst xs) := by
  obtain ⟨gp, vs, hv, r⟩ := s.d p _ hd
  obtain ⟨e, s'⟩ := s.ground (k := .lst vs) hd hv hs hp
  exact ⟨_, e, s', .lst updG_same (RDs.mono e _ r)⟩
theorem RKs.split {κ : Type} : ∀ {vs : List (κ × V)} {ds : List (κ × D)}, RKs K G vs ds → vs = (ds.map (·.1)).zip (vs.map (·.2)) ∧ (ds.map (·.1)).length = (vs.map (·.2)).length ∧ RDs K G (vs.map (·.2)) (ds.map (·.2))
  | _, _, .nil => ⟨rfl, rfl, .nil⟩
  | _, _, .cons a b => by
    obtain ⟨e, l, r⟩ := RKs.split b
    refine ⟨?_, by simpa using l, .cons a r⟩
    simp only [List.map_cons, List.zip_cons_cons]
    rw [← e]
theorem RKs.join {κ : Type} : ∀ {ks : List κ} {vs : List V} {ds : List D}, ks.length = vs.length → RDs K G vs ds → RKs K G (ks.zip vs) (ks.zip ds)
  | [], [], _, _, .nil => .nil
  | k :: ks, v :: vs, _, l, .cons a b => .cons a (RKs.join (by simpa using l) b)
/-- what is tracked is locked, taken into the ground -/
theorem Sim.groundW (s : Sim K G dh' hid H) {p : Addr} {o : MO} {u : HO} {k : GK} (hd : dh' p = some o) (hk : GOk K.w (upd H p u) p k) (hs : Sub dh dh') (hp : dh p = none) :
    GE G (updG G p k) ∧ Sim K (updG G p k) dh hid (upd H p u) := by
  have gp := (s.d p _ hd).1
  have e := GE.new (k := k) gp
  refine ⟨e, fun a v hv => ?_, fun a v hv => ?_, fun a v hv => ?_⟩
  · by_cases ha : a = p
    · subst ha; rw [updG_same] at hv; cases hv; exact hk
    · rw [updG_ne ha] at hv
      exact (s.g a v hv).keep fun o e => by rw [upd_ne ha]; exact e
  · have ha : a ≠ p := neD_none hv hp
    rw [updG_ne ha]
    have q := s.d a v (hs a v hv)
    exact ⟨q.1, (q.2.mono e).keep fun o e => by rw [upd_ne ha]; exact e⟩
  · have ha := s.neHD hv hd
    rw [updG_ne ha, upd_ne ha]
    exact ⟨(s.h a v hv).1, hs.none (s.h a v hv).2.1, (s.h a v hv).2.2⟩
theorem keyDs_map : ∀ ks : List NKey, keyDs ks = ks.map keyD
  | [] => by simp only [keyDs, List.map_nil]
  | k :: ks => by simp only [keyDs, List.map_cons, keyDs_map ks]
theorem RXs.split : ∀ {vs : List Ent3} {ds : List (NKey × D)}, RXs K G vs ds → vs.map (·.1) = ds.map (·.1) ∧ RDs K G (vs.map fun x => V.ref x.2.1) (ds.map fun x => keyD x.1) ∧ RDs K G (vs.map (·.2.2)) (ds.map (·.2))
  | _, _, .nil => ⟨rfl, .nil, .nil⟩
  | _, _, .cons a b c => by
    obtain ⟨e, r1, r2⟩ := RXs.split c
    exact ⟨by simp only [List.map_cons, e], .cons a r1, .cons b r2⟩
theorem Sim.freezeK (s : Sim K G dh' hid H) {p : Addr} {xs : List (Key × D)} (hd : dh' p = some (.dK xs)) (hs : Sub dh dh') (hp : dh p = none) :
    ∃ u, H p = some u ∧ Mut (some u) ∧ ∀ o, ∃ G', GE G G' ∧ Sim K G' dh hid (upd H p (.frz o u)) ∧ RD K G' (.ref p) (.dk (xs.map (·.1)) (xs.map (·.2))) := by
  obtain ⟨gp, vs, hv, r⟩ := s.d p _ hd
  refine ⟨_, hv, True.intro, fun o => ?_⟩
  obtain ⟨e, s'⟩ := s.groundW (k := .dk o vs) (u := .frz o (.dK vs)) hd upd_same hs hp
  obtain ⟨e1, l, r1⟩ := RKs.split r
  exact ⟨_, e, s', .dk (by rw [← e1]; exact updG_same) l (RDs.mono e _ r1)⟩
theorem Sim.freezeT (s : Sim K G dh' hid H) {p : Addr} {xs : List (NKey × D)} (hd : dh' p = some (.dT xs)) (hs : Sub dh dh') (hp : dh p = none) :
    ∃ u, H p = some u ∧ Mut (some u) ∧ ∀ o, ∃ G', GE G G' ∧ Sim K G' dh hid (upd H p (.frz o u)) ∧ RD K G' (.ref p) (.dt (xs.map fun x => keyD x.1) (xs.map (·.2))) := by
  obtain ⟨gp, vs, hv, dd, r⟩ := s.d p _ hd
  refine ⟨_, hv, True.intro, fun o => ?_⟩
  obtain ⟨e, s'⟩ := s.groundW (k := .dt o vs) (u := .frz o (rawO K.w p vs)) hd ⟨upd_same, dd⟩ hs hp
  obtain ⟨e2, r1, r2⟩ := RXs.split r
  refine ⟨_, e, s', .dt updG_same ?_ (RDs.mono e _ r1) (RDs.mono e _ r2)⟩
  have e3 : (xs.map fun x => keyD x.1) = (xs.map (·.1)).map keyD := by rw [List.map_map]; rfl
  rw [e2, e3, ← keyDs_map, dKeys_keyDs]
theorem Sim.boxed (s : Sim K G dh' hid H) {p : Addr} {c t : Int} (hd : dh' p = some (.lst [.int c, .int t])) (hb : BoxOk c t) (hs : Sub dh dh') (hp : dh p = none) :
    ∃ G', GE G G' ∧ Sim K G' dh hid H ∧ RD K G' (.ref p) (.box p) := by
  obtain ⟨gp, vs, hv, r⟩ := s.d p _ hd
  have ev : vs = [.int c, .int t] := RDs.ints (ns := [c, t]) r
  subst ev
  obtain ⟨e, s'⟩ := s.ground (k := .box) hd ⟨c, t, hv, hb⟩ hs hp
  exact ⟨_, e, s', .box updG_same⟩
/-- a tracked thing is hidden for a while -/
theorem Sim.hide (s : Sim K G (updD dh p o) hid H) {u : HO} (hu : H p = some u) (hp : dh p = none) : Sim K G dh (upd hid p u) H := by
  have gp := (s.d p o updD_same).1
  refine ⟨s.g, fun a v hv => s.d a v (by rw [updD_ne (neD_none hv hp)]; exact hv), fun a v hv => ?_⟩
  by_cases ha : a = p
  · subst ha
    rw [upd_same] at hv; cases hv
    exact ⟨gp, hp, hu⟩
  · rw [upd_ne ha] at hv
    have q := s.h a v hv
    rw [updD_ne ha] at q
    exact q
theorem Sim.show (s : Sim K G dh (upd hid p u) H) (hh : hid p = none) (h : MOk K G H p o) : Sim K G (updD dh p o) hid H := by
  have q := s.h p u upd_same
  refine ⟨s.g, fun a v hv => ?_, fun a v hv => ?_⟩
  · by_cases ha : a = p
    · subst ha; rw [updD_same] at hv; cases hv; exact ⟨q.1, h⟩
    · rw [updD_ne ha] at hv; exact s.d a v hv
  · have ha : a ≠ p := neH hv hh
    rw [updD_ne ha]
    exact s.h a v (by rw [upd_ne ha]; exact hv)
/-- a hidden list grows -/
theorem Sim.hidW (s : Sim K G dh (upd hid p u) H) {o : HO} : Sim K G dh (upd hid p o) (upd H p o) := by
  have q := s.h p u upd_same
  refine ⟨fun a v hv => ?_, fun a v hv => ?_, fun a v hv => ?_⟩
  · have ha : a ≠ p := by intro e; subst e; rw [q.1] at hv; cases hv
    exact (s.g a v hv).keep fun o e => by rw [upd_ne ha]; exact e
  · have ha : a ≠ p := neD_none hv q.2.1
    exact ⟨(s.d a v hv).1, (s.d a v hv).2.keep fun o e => by rw [upd_ne ha]; exact e⟩
  · by_cases ha : a = p
    · subst ha; rw [upd_same] at hv; cases hv; exact ⟨q.1, q.2.1, upd_same⟩
    · rw [upd_ne ha] at hv ⊢
      exact s.h a v (by rw [upd_ne ha]; exact hv)
/-- a hidden new thing is laid -/
theorem Sim.newH (s : Sim K G dh hid H) {p : Addr} {o : HO} (hp : H p = none) : Sim K G dh (upd hid p o) (upd H p o) := by
  have s' := s.grow (grows (o := o) hp)
  refine ⟨s'.g, s'.d, fun a v hv => ?_⟩
  by_cases ha : a = p
  · subst ha; rw [upd_same] at hv; cases hv; exact ⟨s.gnone hp, s.dnone hp, upd_same⟩
  · rw [upd_ne ha] at hv; exact s'.h a v hv
/-- a hidden thing is taken into the ground -/
theorem Sim.hidG (s : Sim K G dh (upd hid p u) H) {k : GK} (hh : hid p = none) (hk : GOk K.w H p k) : GE G (updG G p k) ∧ Sim K (updG G p k) dh hid H := by
  have q := s.h p u upd_same
  have e := GE.new (k := k) q.1
  refine ⟨e, fun a v hv => ?_, fun a v hv => ?_, fun a v hv => ?_⟩
  · by_cases ha : a = p
    · subst ha; rw [updG_same] at hv; cases hv; exact hk
    · rw [updG_ne ha] at hv; exact s.g a v hv
  · have ha : a ≠ p := neD_none hv q.2.1
    rw [updG_ne ha]
    exact ⟨(s.d a v hv).1, (s.d a v hv).2.mono e⟩
  · have ha : a ≠ p := neH hv hh
    rw [updG_ne ha]
    exact s.h a v (by rw [upd_ne ha]; exact hv)
end

/-! ### the judgements -/
abbrev DQ := D → DH → Prop
/-- an exception: the name of its class, its fields -/
abbrev XQ := String → List (Str × D) → DH → Prop
structure Sx where
  K : FW
  ct : List (String × Addr)
def RX (S : Sx) (G : Gho) (cls : Value) (d : Option Addr) (H : Hp) (c : String) (fs : List (Str × D)) : Prop :=
  ∃ C, S.ct.lookup c = some C ∧ cls = .ref C ∧ ((d = none ∧ fs = []) ∨ ∃ a vs, d = some a ∧ H a = some (.xd vs) ∧ RKs S.K G vs fs)
abbrev DE := DSt → DH → DQ → XQ → Prop
abbrev DT := DSt → DH → (Bool → DH → Prop) → XQ → Prop
abbrev DA := DSt → DH → (List D → DH → Prop) → XQ → Prop
structure DEnds where
  nx : DSt → DH → Prop
  rt : DQ
  bk : DSt → DH → Prop := fun _ _ => False
  ct : DSt → DH → Prop := fun _ _ => False
  ex : String → List (Str × D) → DSt → DH → Prop
abbrev DS := DEnds → DSt → DH → Prop

/-- what follows a value, an exception -/
def CQ (S : Sx) (G : Gho) (hid : Hp) (Q : VK) (Q' : DQ) : Prop := ∀ G' H' v d dh', GE G G' → Sim S.K G' dh' hid H' → RD S.K G' v d → Q' d dh' → Q v H'
def CX' (S : Sx) (G : Gho) (hid : Hp) (E : XK) (E' : XQ) : Prop := ∀ G' H' cls d c fs dh', GE G G' → Sim S.K G' dh' hid H' → RX S G' cls d H' c fs → E' c fs dh' → E cls d H'
theorem CQ.mono {S : Sx} {G G1 : Gho} {hid : Hp} {Q : VK} {Q' : DQ} (h : CQ S G hid Q Q') (e : GE G G1) : CQ S G1 hid Q Q' := fun G' H' v d dh' e' => h G' H' v d dh' (e.trans e')
theorem CX'.mono {S : Sx} {G G1 : Gho} {hid : Hp} {E : XK} {E' : XQ} (h : CX' S G hid E E') (e : GE G G1) : CX' S G1 hid E E' := fun G' H' v d c fs dh' e' => h G' H' v d c fs dh' (e.trans e')
section
variable (S : Sx) (W : WX)
def SimE (t : TE) (T : DE) : Prop := ∀ G hid σ ds dh H (Q : VK) (Q' : DQ) (E' : XQ), RS S.K G σ ds → Sim S.K G dh hid H → CX' S G hid (WE W σ) E' → T ds dh Q' E' → CQ S G hid Q Q' → t σ H Q
def SimT (t : TT) (T : DT) : Prop := ∀ G hid σ ds dh H (Q : Bool → Hp → Prop) (Q' : Bool → DH → Prop) (E' : XQ), RS S.K G σ ds → Sim S.K G dh hid H → CX' S G hid (WE W σ) E' → T ds dh Q' E' → (∀ G' H' b dh', GE G G' → Sim S.K G' dh' hid H' → Q' b dh' → Q b H') → t σ H Q
def SimA (t : TA) (T : DA) : Prop := ∀ G hid σ ds dh H (Q : List V → Hp → Prop) (Q' : List D → DH → Prop) (E' : XQ), RS S.K G σ ds → Sim S.K G dh hid H → CX' S G hid (WE W σ) E' → T ds dh Q' E' → (∀ G' H' vs es dh', GE G G' → Sim S.K G' dh' hid H' → RDs S.K G' vs es → Q' es dh' → Q vs H') → t σ H Q
end
def SimP (S : Sx) (G : Gho) (hid : Hp) (N : L2.St → Hp → Prop) (N' : DSt → DH → Prop) : Prop := ∀ G' σ ds dh H, GE G G' → RS S.K G' σ ds → Sim S.K G' dh hid H → N' ds dh → N σ H
structure SimD (S : Sx) (W : WX) (G : Gho) (hid : Hp) (Z : Ends) (Z' : DEnds) : Prop where
  nx : SimP S G hid Z.nx Z'.nx
  rt : CQ S G hid Z.rt Z'.rt
  bk : SimP S G hid Z.bk Z'.bk
  ct : SimP S G hid Z.ct Z'.ct
  ex : ∀ G' σ ds dh H cls d c fs, GE G G' → RS S.K G' σ ds → Sim S.K G' dh hid H → RX S G' cls d H c fs → Z'.ex c fs ds dh → W cls d σ H
def SimS (S : Sx) (W : WX) (t : TS) (T : DS) : Prop := ∀ G hid σ ds dh H (Z : Ends) (Z' : DEnds), RS S.K G σ ds → Sim S.K G dh hid H → SimD S W G hid Z Z' → T Z' ds dh → t Z σ H
theorem SimP.mono {S : Sx} {G G' : Gho} {hid : Hp} {N : L2.St → Hp → Prop} {N' : DSt → DH → Prop} (e : GE G G') (h : SimP S G hid N N') : SimP S G' hid N N' := fun G2 σ ds dh H e2 => h G2 σ ds dh H (e.trans e2)
theorem SimD.mono {S : Sx} {W : WX} {G G' : Gho} {hid : Hp} {Z : Ends} {Z' : DEnds} (e : GE G G') (h : SimD S W G hid Z Z') : SimD S W G' hid Z Z' :=
  ⟨h.nx.mono e, h.rt.mono e, h.bk.mono e, h.ct.mono e, fun G2 σ ds dh H cls d c fs e2 => h.ex G2 σ ds dh H cls d c fs (e.trans e2)⟩
theorem SimD.cx {S : Sx} {W : WX} {G : Gho} {hid : Hp} {Z : Ends} {Z' : DEnds} (h : SimD S W G hid Z Z') {σ : L2.St} {ds : DSt} (r : RS S.K G σ ds) : CX' S G hid (WE W σ) fun c fs dh => Z'.ex c fs ds dh :=
  fun G' H' cls d c fs dh' e s x q => h.ex G' σ ds dh' H' cls d c fs e (r.mono e) s x q
end Deep

/-! Dp2: the code, what it does over data. -/
namespace Deep
open PySem L2

/-! ### the code -/
inductive Op | add | sub | mul | fdiv | mod | pow | shl | shr | band | bxor
  deriving DecidableEq, Repr
inductive Cp | eq | ne | lt | le | gt | ge | isN | notN | inn | notin
  deriving DecidableEq, Repr
/-- how a new list, dict is held: frozen, tracked, a box -/
inductive LK | f | t | b
  deriving DecidableEq, Repr
/-- built-ins -/
inductive Bi | len | abs | max2 | min2 | max1 | min1 | int | str | isinst | lis | tup | sum | any | all | sorted | repr | dic
  deriving DecidableEq, Repr
/-- methods of built-in types -/
inductive Mt | append | extend | pop0 | pop1 | clear
  deriving DecidableEq, Repr
/-- methods of texts -/
inductive Tm | join | part | split
  deriving DecidableEq, Repr
mutual
/-- a target of names -/
inductive Tn
  | nm (i : Nat)
  | tp (ts : Tns)
inductive Tns
  | nil
  | cons (t : Tn) (ts : Tns)
end
mutual
inductive Ex
  | var (i : Nat)
  | cst (d : D)
  | glb (x : Str) (d : D)
  | op (o : Op) (m : LK) (a b : Ex)
  | neg (a : Ex)
  | cmp (c : Cp) (a b : Ex)
  | chn (c c' : Cp) (a b d : Ex)
  | and (a : Ex) (es : Exs)
  | or (a : Ex) (es : Exs)
  | typ (n : String)
  | not (a : Ex)
  | ite (c a b : Ex)
  | tup (es : Exs)
  | lst (m : LK) (es : Exs)
  | ix (a b : Ex)
  | sl (m : LK) (a : Ex) (lo hi : OE)
  | call (f : String) (es : Exs)
  | bi (f : Bi) (m : LK) (es : Exs)
  | mt (f : Mt) (o : Ex) (es : Exs)
  | tm (f : Tm) (m : LK) (o e : Ex)
  | dnew (t : Bool)
  | dget (o k d : Ex)
  | mxd (e d : Ex)
  | lrng (m : LK) (a : Ex)
  | ddsp (k v : Ex)
  | frz (e : Ex)
  | lc (m : LK) (own : List (Str × Nat)) (it : Iw) (tg : Tn) (c : OE) (e : Ex)
inductive Exs
  | nil
  | cons (e : Ex) (es : Exs)
inductive OE
  | non
  | som (e : Ex)
inductive Iw
  | ex (e : Ex)
  | rng (es : Exs)
  | enm (e : Ex)
  | zip (a b : Ex)
  | rev (e : Ex)
end
mutual
inductive Sm
  | asg (t : Tn) (e : Ex)
  | par (i j : Nat) (a b : Ex)
  | sub (o i e : Ex)
  | exp (e : Ex)
  | ret (e : Ex)
  | retN
  | ite (c : Ex) (a b : Sms)
  | whl (c : Ex) (b : Sms)
  | for (t : Tn) (it : Iw) (b : Sms)
  | brk
  | cnt
  | pas
inductive Sms
  | nil
  | frz (i : Nat) (r : Sms)
  | cons (s : Sm) (r : Sms)
end

/-! ### values -/
def asL (h : DH) : D → Option (List D)
  | .lst xs => some xs
  | .ref a => match h a with
    | some (.lst xs) => some xs
    | _ => none
  | _ => none
def newL (m : LK) (zs : List D) (h : DH) (Q : DQ) : Prop := match m with
  | .f => Q (.lst zs) h
  | .t => ∀ p, h p = none → Q (.ref p) (updD h p (.lst zs))
  | .b => match zs with
    | [.int c, .int s] => BoxOk c s ∧ ∀ p, Q (.box p) h
    | _ => False
mutual
/-- plain data -/
def toP : D → Option PyData
  | .non => some .none
  | .bl b => some (.bool b)
  | .int i => some (.int i)
  | .str x => some (.str x)
  | .tup xs => (toPs xs).map .tuple
  | .lst xs => (toPs xs).map .list
  | _ => none
def toPs : List D → Option (List PyData)
  | [] => some []
  | x :: xs => match toP x, toPs xs with
    | some y, some ys => some (y :: ys)
    | _, _ => none
end
def topP (h : DH) : D → Option PyData
  | .ref a => match h a with
    | some (.lst xs) => (toPs xs).map .list
    | _ => none
  | d => toP d
def scalD : D → D → Bool
  | .int _, .int _ => true
  | .str _, .str _ => true
  | .bl _, .bl _ => true
  | _, _ => false
/-! dicts -/
/-- an int, a text as a key -/
def kKey : D → Option Key
  | .int i => some (.inl i)
  | .str x => some (.inr x)
  | _ => none
inductive DV where
  | k (kvs : List (Key × D))
  | t (kvs : List (NKey × D))
def asD (h : DH) : D → Option DV
  | .ref a => match h a with
    | some (.dK kvs) => some (.k kvs)
    | some (.dT kvs) => some (.t kvs)
    | _ => none
  | .dk ks xs => some (.k (ks.zip xs))
  | .dt ks xs => match dKeys ks with
    | some ns => some (.t (ns.zip xs))
    | none => none
  | _ => none
def valK {κ : Type} [DecidableEq κ] (kvs : List (κ × D)) (k : κ) : Option D := (kvs.find? fun x => decide (x.1 = k)).map (·.2)
def putD {κ : Type} [DecidableEq κ] (kvs : List (κ × D)) (k : κ) (d : D) : List (κ × D) := if (valK kvs k).isSome then kvs.map fun x => if x.1 = k then (x.1, d) else x else kvs ++ [(k, d)]
def keyOk (k : NKey) : Prop := k.depth ≤ 8 ∧ ∃ ks, k = .tup ks
/-- what stands at a key -/
def lookD (v : DV) (y : D) (R : Option D → Prop) : Prop := match v with
  | .k kvs => match kKey y with
    | some k => R (valK kvs k)
    | none => False
  | .t kvs => match dKey y with
    | some k => keyOk k ∧ R (valK kvs k)
    | none => False
def dgetD (x y : D) (h : DH) (Q : DQ) : Prop := match asD h x with
  | some v => lookD v y fun o => match o with
    | some d => Q d h
    | none => False
  | none => False
def isDic (h : DH) (x : D) : Prop := (asD h x).isSome = true
def dget2D (x y z : D) (h : DH) (Q : DQ) : Prop := match asD h x with
  | some v => lookD v y fun o => Q (o.getD z) h
  | none => False
def dinD (x y : D) (h : DH) (R : Bool → Prop) : Prop := match asD h y with
  | some v => lookD v x fun o => R o.isSome
  | none => False
/-- dicts, one of them empty -/
def eqDic (x y : D) (h : DH) (Q : Bool → Prop) : Prop := match asD h x, asD h y with
  | some (.t a), some (.t b) => (a = [] ∨ b = []) ∧ Q (a.length == b.length)
  | _, _ => False
/-- == -/
def eqD (x y : D) (h : DH) (Q : Bool → Prop) : Prop := match x, y with
  | .int i, .int j => Q (decide (i = j))
  | .str i, .str j => Q (decide (i = j))
  | .bl i, .bl j => Q (decide (i = j))
  | x, y => match topP h x, topP h y with
    | some p, some q => SeqAt.shaped p = true ∧ SeqAt.shaped q = true ∧ Q (PyData.eqv p q)
    | _, _ => eqDic x y h Q
def cmpI (c : Cp) (i j : Int) : Bool := match c with
  | .lt => decide (i < j)
  | .le => decide (i ≤ j)
  | .gt => decide (j < i)
  | .ge => decide (j ≤ i)
  | _ => false
def flatD : D → Bool
  | .non => true
  | .bl _ => true
  | .int _ => true
  | .str _ => true
  | _ => false
def flatVD : D → V
  | .bl b => .bl b
  | .int i => .int i
  | .str x => .str x
  | _ => .non
/-- x in xs -/
def inD (x : D) (xs : List D) : Bool := inV (flatVD x) (xs.map flatVD)
/-- the items of a list that is read -/
def asR (h : DH) : D → Option (List D)
  | .scr ns => some (ns.map D.int)
  | d => asL h d
/-- the items of a list, a tuple -/
def asS (h : DH) : D → Option (List D)
  | .tup xs => some xs
  | d => asR h d
def isNonD : D → Bool
  | .non => true
  | _ => false
def cmpD (c : Cp) (x y : D) (h : DH) (Q : Bool → Prop) : Prop := match c with
  | .eq => eqD x y h Q
  | .ne => eqD x y h fun b => Q (!b)
  | .isN => isNonD y = true ∧ Q (isNonD x)
  | .notN => isNonD y = true ∧ Q (!isNonD x)
  | .inn => match asS h y with
    | some ys => flatD x = true ∧ ys.all flatD = true ∧ Q (inD x ys)
    | none => match x, y with
      | .str i, .str j => Q (!(Builtin.Str.occurrences j i 0 j.length 1).isEmpty)
      | x, y => dinD x y h Q
  | .notin => match asS h y with
    | some ys => flatD x = true ∧ ys.all flatD = true ∧ Q (!inD x ys)
    | none => match x, y with
      | .str i, .str j => Q (!(!(Builtin.Str.occurrences j i 0 j.length 1).isEmpty))
      | x, y => dinD x y h fun b => Q (!b)
  | c => match x, y with
    | .int i, .int j => Q (cmpI c i j)
    | _, _ => False
def MulOk (i j : Int) : Prop := CMul i j ∨ CMulX i j
def FdOk (i j : Int) : Prop := j ≠ 0 ∧ Builtin.divisionGoesByPylong i j = false
def opD (o : Op) (m : LK) (x y : D) (h : DH) (Q : DQ) : Prop := match o, x, y with
  | .add, .int i, .int j => Q (.int (i + j)) h
  | .add, .str i, .str j => i.length + j.length ≤ sizeLine ∧ Q (.str (i ++ j)) h
  | .add, .tup xs, .tup ys => xs.length + ys.length ≤ sizeLine ∧ Q (.tup (xs ++ ys)) h
  | .add, x, y => match asL h x, asL h y with
    | some xs, some ys => xs.length + ys.length ≤ sizeLine ∧ newL m (xs ++ ys) h Q
    | _, _ => False
  | .sub, .int i, .int j => Q (.int (i - j)) h
  | .mul, .int i, .int j => MulOk i j ∧ Q (.int (i * j)) h
  | .mul, .str i, .int j => RepOk i j ∧ Q (.str (repS i j)) h
  | .mul, .tup xs, .int j => (xs ≠ [] ∧ 0 ≤ j ∧ j ≤ 1000 ∧ xs.length ≤ 1000) ∧ Q (.tup (List.replicate j.toNat xs).flatten) h
  | .mul, x, .int j => match asL h x with
    | some xs => (-(2 ^ 63) ≤ j ∧ j < 2 ^ 63 ∧ xs.length * j.toNat ≤ sizeLine) ∧ newL m (List.replicate j.toNat xs).flatten h Q
    | none => False
  | .fdiv, .int i, .int j => FdOk i j ∧ Q (.int (i.fdiv j)) h
  | .mod, .int i, .int j => j ≠ 0 ∧ Q (.int (i.fmod j)) h
  | .pow, .int i, .int j => CPow i j ∧ Q (.int (i ^ j.toNat)) h
  | .shl, .int i, .int j => CPow i j ∧ Q (.int (i * 2 ^ j.toNat)) h
  | .shr, .int i, .int j => 0 ≤ j ∧ Q (.int (i / 2 ^ j.toNat)) h
  | .band, .int i, .int j => Q (.int (Builtin.bitAnd i j)) h
  | .bxor, .int i, .int j => Q (.int (Builtin.bitXor i j)) h
  | _, _, _ => False
def negD (x : D) (h : DH) (Q : DQ) : Prop := match x with
  | .int i => Q (.int (-i)) h
  | _ => False
def boxD (i : Int) (h : DH) (Q : DQ) : Prop :=
  (i = 0 ∧ ∀ c, 0 ≤ c → Q (.int c) h) ∨ (i = 1 ∧ ∀ s, 1 ≤ s → s ≤ 2147483629 → Q (.int s) h)
def ixD (x y : D) (h : DH) (Q : DQ) : Prop := match x, y with
  | .box _, .int i => boxD i h Q
  | .str z, .int i => z.length ≤ sizeLine ∧ match atI z.cps.toList i with
    | some c => Q (.str ⟨#[c]⟩) h
    | none => False
  | x, .int i => match asS h x with
    | some xs => match atI xs i with
      | some v => Q v h
      | none => False
    | none => dgetD x (.int i) h Q
  | x, y => dgetD x y h Q
def slD (m : LK) (x : D) (lo hi : Option Int) (h : DH) (Q : DQ) : Prop := match x with
  | .tup xs => Q (.tup ((xs.drop (HT.sIx xs.length 0 lo)).take (HT.sIx xs.length xs.length hi - HT.sIx xs.length 0 lo))) h
  | x => match asR h x with
    | some xs => newL m ((xs.drop (HT.sIx xs.length 0 lo)).take (HT.sIx xs.length xs.length hi - HT.sIx xs.length 0 lo)) h Q
    | none => False
def truD (x : D) (h : DH) (Q : Bool → DH → Prop) : Prop := match x with
  | .bl b => Q b h
  | _ => False
def bD (x : D) (Q : Bool → Prop) : Prop := match x with
  | .bl b => Q b
  | _ => False
def tyD : D → Option String
  | .non => some "NoneType"
  | .bl _ => some "bool"
  | .int _ => some "int"
  | .str _ => some "str"
  | .tup _ => some "tuple"
  | .lst _ => some "list"
  | .scr _ => some "list"
  | .box _ => some "list"
  | _ => none
def tyH (h : DH) : D → Option String
  | .ref a => match h a with
    | some (.lst _) => some "list"
    | _ => none
  | d => tyD d
def kitQ (h : DH) (x : D) (n : String) : Option Bool := match tyH h x with
  | some a => kitB a n
  | none => none
def intsD : List D → Option (List Int)
  | [] => some []
  | .int i :: r => (intsD r).map (i :: ·)
  | _ => none
def blsD : List D → Option (List Bool)
  | [] => some []
  | .bl i :: r => (blsD r).map (i :: ·)
  | _ => none
def strsD : List D → Option (List Str)
  | [] => some []
  | .str i :: r => (strsD r).map (i :: ·)
  | _ => none
def isStrD : D → Prop
  | .str _ => True
  | _ => False
def tmD (f : Tm) (m : LK) (x y : D) (h : DH) (Q : DQ) : Prop := match f, x, y with
  | .join, .str a, y => match asS h y with
    | some ds => match strsD ds with
      | some ys => (ys.map (·.length)).sum + ys.length * a.length ≤ 16777216 ∧ Q (.str (Txt.join a ys)) h
      | none => False
    | none => False
  | .part, .str a, .str b => (b.length == 0) = false ∧ a.length ≤ sizeLine ∧ Q (.tup [.str (Txt.partition a b).1, .str (Txt.partition a b).2.1, .str (Txt.partition a b).2.2]) h
  | .split, .str a, .str b => (b.length == 0) = false ∧ a.length + 2 ≤ sizeLine ∧ newL m ((Txt.split a b).map D.str) h Q
  | _, _, _ => False
/-- sorted data -/
def sortDP (ds : List D) (ps : List PyData) : List D := ((ds.zip ps).mergeSort (PySem.W.dataLe false fun t : D × PyData => t.2)).map (·.1)
def mxdD (x z : D) (h : DH) (Q : DQ) : Prop := match asL h x with
  | some xs => match intsD xs with
    | some [] => Q z h
    | some (n :: r) => Q (.int (r.foldl max n)) h
    | none => False
  | none => False
def rngL (lo : Int) : Nat → List D
  | 0 => []
  | n + 1 => .int lo :: rngL (lo + 1) n
def lrngD (m : LK) (x : D) (h : DH) (Q : DQ) : Prop := match x with
  | .int j => (-(2 ^ 62) ≤ j ∧ j < 2 ^ 62 ∧ j.toNat ≤ 2 ^ 24) ∧ newL m (rngL 0 j.toNat) h Q
  | _ => False
def biD (f : Bi) (m : LK) (ds : List D) (h : DH) (Q : DQ) : Prop := match f, ds with
  | .len, [.str z] => z.length ≤ sizeLine ∧ Q (.int z.length) h
  | .len, [x] => match asS h x with
    | some xs => Q (.int xs.length) h
    | none => match asD h x with
      | some (.k kvs) => Q (.int kvs.length) h
      | some (.t kvs) => Q (.int kvs.length) h
      | none => False
  | .abs, [.int i] => Q (.int (if i < 0 then -i else i)) h
  | .max2, [.int i, .int j] => Q (.int (if j > i then j else i)) h
  | .min2, [.int i, .int j] => Q (.int (if j < i then j else i)) h
  | .max1, [.tup xs] => match intsD xs with
    | some (n :: ns) => Q (.int (ns.foldl max n)) h
    | _ => False
  | .min1, [.tup xs] => match intsD xs with
    | some (n :: ns) => Q (.int (ns.foldl min n)) h
    | _ => False
  | .max1, [x] => match asL h x with
    | some xs => match intsD xs with
      | some ns => 0 < ns.length ∧ ∀ m, m ∈ ns → (∀ y, y ∈ ns → y ≤ m) → Q (.int m) h
      | none => False
    | none => False
  | .min1, [x] => match asL h x with
    | some xs => match intsD xs with
      | some ns => 0 < ns.length ∧ ∀ m, m ∈ ns → (∀ y, y ∈ ns → m ≤ y) → Q (.int m) h
      | none => False
    | none => False
  | .int, [.int i] => Q (.int i) h
  | .int, [.bl k] => Q (.int (if k then 1 else 0)) h
  | .str, [.int i] => i.natAbs.log2 < 1920 ∧ Q (.str (toString i)) h
  | .isinst, [x, .ty n] => match kitQ h x n with
    | some b => Q (.bl b) h
    | none => False
  | .lis, [x] => match asS h x with
    | some xs => newL m xs h Q
    | none => False
  | .tup, [.tup xs] => Q (.tup xs) h
  | .tup, [x] => match asL h x with
    | some xs => Q (.tup xs) h
    | none => False
  | .sum, [x] => match asS h x with
    | some xs => match intsD xs with
      | some ns => Q (.int ns.sum) h
      | none => False
    | none => False
  | .any, [x] => match asL h x with
    | some xs => match blsD xs with
      | some ns => Q (.bl (ns.any id)) h
      | none => False
    | none => False
  | .all, [x] => match asL h x with
    | some xs => match blsD xs with
      | some ns => Q (.bl (ns.all id)) h
      | none => False
    | none => False
  | .sorted, [x] => match asL h x with
    | some xs => match toPs xs with
      | some ps => SortOk ps ∧ newL m (sortDP xs ps) h Q
      | none => False
    | none => match asD h x with
      | some (.t kvs) => SortOk (kvs.map fun x => x.1.data) ∧ newL m (sortDP (kvs.map fun x => keyD x.1) (kvs.map fun x => x.1.data)) h Q
      | _ => False
  | .dic, [x] => match asD h x with
    | some (.t kvs) => (∀ w : World, (kvs.map fun x => x.1.hash w).Nodup) ∧ (∀ x ∈ kvs, ∃ ks, x.1 = .tup ks) ∧ ∀ p, h p = none → Q (.ref p) (updD h p (.dT kvs))
    | _ => False
  | .repr, [x] => match topP h x with
    | some p => ShowOk p ∧ Q (.str p.shown) h
    | none => False
  | _, _ => False
def mtD (f : Mt) (x : D) (ds : List D) (h : DH) (Q : DQ) : Prop := match x with
  | .ref p => match h p with
    | some (.lst xs) => match f, ds with
      | .append, [y] => xs.length < sizeLine ∧ Q .non (updD h p (.lst (xs ++ [y])))
      | .extend, [y] => match asL h y with
        | some zs => xs.length + zs.length ≤ sizeLine ∧ Q .non (updD h p (.lst (xs ++ zs)))
        | none => False
      | .pop0, [] => match xs[xs.length - 1]? with
        | some y => Q y (updD h p (.lst xs.dropLast))
        | none => False
      | .pop1, [.int i] => match seqIndex? i xs.length with
        | some k => match xs[k]? with
          | some y => (-(2 ^ 63) ≤ i ∧ i < 2 ^ 63) ∧ Q y (updD h p (.lst (xs.eraseIdx k)))
          | none => False
        | none => False
      | .clear, [] => Q .non (updD h p (.lst []))
      | _, _ => False
    | _ => False
  | _ => False
/-- a tracked list -/
def lstAt (dh : DH) : D → Prop
  | .ref p => match dh p with
    | some (.lst _) => True
    | _ => False
  | _ => False
def frzD (x : D) (h : DH) (Q : DQ) : Prop := match x with
  | .ref p => match h p with
    | some (.lst xs) => Q (.lst xs) (delD h p)
    | some (.dK xs) => Q (.dk (xs.map (·.1)) (xs.map (·.2))) (delD h p)
    | some (.dT xs) => Q (.dt (xs.map fun x => keyD x.1) (xs.map (·.2))) (delD h p)
    | _ => Q (.ref p) h
  | d => Q d h
def setD (o i v : D) (h : DH) (Q : DH → Prop) : Prop := match o, i with
  | .box _, .int k => match v with
    | .int j => ((k = 0 ∧ 0 ≤ j) ∨ (k = 1 ∧ 1 ≤ j ∧ j ≤ 2147483629)) ∧ Q h
    | _ => False
  | .ref p, i => match h p with
    | some (.lst xs) => match i with
      | .int k => match ixN xs.length k with
        | some j => Q (updD h p (.lst (xs.set j v)))
        | none => False
      | _ => False
    | some (.dK kvs) => match kKey i with
      | some k => kvs.length < sizeLine ∧ Q (updD h p (.dK (putD kvs k v)))
      | none => False
    | some (.dT kvs) => match dKey i with
      | some k => keyOk k ∧ kvs.length < sizeLine ∧ Q (updD h p (.dT (putD kvs k v)))
      | none => False
    | _ => False
  | _, _ => False
def dnewD (t : Bool) (h : DH) (Q : DQ) : Prop := ∀ p, h p = none → Q (.ref p) (updD h p (if t = true then .dT [] else .dK []))
def tnsLen : Tns → Nat
  | .nil => 0
  | .cons _ ts => tnsLen ts + 1
mutual
def tnD : Tn → D → DSt → (DSt → Prop) → Prop
  | .nm i, d, σ, Q => Q (σ.set i (some d))
  | .tp ts, d, σ, Q => match d with
    | .tup xs => xs.length = tnsLen ts ∧ tnsD ts xs σ Q
    | _ => False
def tnsD : Tns → List D → DSt → (DSt → Prop) → Prop
  | .nil, [], σ, Q => Q σ
  | .cons t ts, d :: ds, σ, Q => tnD t d σ fun σ' => tnsD ts ds σ' Q
  | _, _, _, _ => False
end
mutual
def tnIx : Tn → List Nat
  | .nm i => [i]
  | .tp ts => tnsIx ts
def tnsIx : Tns → List Nat
  | .nil => []
  | .cons t ts => tnIx t ++ tnsIx ts
end
def wipeD (σ : DSt) : List Nat → DSt
  | [] => σ
  | v :: vs => (wipeD σ vs).set v none

/-! ### what is walked: its items, what must stand at each turn -/
def rngC (lo c : Int) : Nat → List D
  | 0 => []
  | n + 1 => .int lo :: rngC (lo + c) c n
def enmL (k : Nat) : List D → List D
  | [] => []
  | x :: xs => .tup [.int k, x] :: enmL (k + 1) xs
def zipL : List D → List D → List D
  | x :: xs, y :: ys => .tup [x, y] :: zipL xs ys
  | _, _ => []
def strL (z : Str) : List D := z.cps.toList.map fun c => .str ⟨#[c]⟩
def walkD (x : D) (h : DH) (R : List D → (DH → Prop) → Prop) : Prop := match x with
  | .tup xs => R xs fun _ => True
  | .lst xs => R xs fun _ => True
  | .scr ns => R (ns.map D.int) fun _ => True
  | .str z => R (strL z) fun _ => True
  | .dk ks _ => R (ks.map kD) fun _ => True
  | .dt ks _ => R ks fun _ => True
  | .ref a => match h a with
    | some (.lst xs) => R xs fun h' => h' a = some (.lst xs)
    | _ => False
  | _ => False
/-- a list that is walked -/
def walkL (x : D) (h : DH) (R : List D → (DH → Prop) → Prop) : Prop := match x with
  | .lst xs => R xs fun _ => True
  | .scr ns => R (ns.map D.int) fun _ => True
  | .ref a => match h a with
    | some (.lst xs) => R xs fun h' => h' a = some (.lst xs)
    | _ => False
  | _ => False
def zipW (x y : D) (h : DH) (R : List D → (DH → Prop) → Prop) : Prop := match x, y with
  | .tup xs, .tup ys => R (zipL xs ys) fun _ => True
  | x, y => walkL x h fun xs ok => walkL y h fun ys ok' => R (zipL xs ys) fun h' => ok h' ∧ ok' h'
def revW (x : D) (h : DH) (R : List D → (DH → Prop) → Prop) : Prop := match x with
  | .tup xs => R xs.reverse fun _ => True
  | x => walkL x h fun xs ok => R xs.reverse ok
/-- the turns -/
def forD (g : D → DSt → (DSt → Prop) → Prop) (ok : DH → Prop) (b : DS) (Z : DEnds) : List D → DSt → DH → Prop
  | [], σ, h => ok h ∧ Z.nx σ h
  | x :: xs, σ, h => ok h ∧ g x σ fun σ' => b { Z with nx := forD g ok b Z xs, ct := forD g ok b Z xs, bk := Z.nx } σ' h
def lcD (g : D → DSt → (DSt → Prop) → Prop) (ok : DH → Prop) (c : DT) (e : DE) (σ : DSt) (R : List D → DH → Prop) : List D → List D → DH → Prop
  | [], acc, h => ok h ∧ R acc h
  | x :: xs, acc, h => ok h ∧ g x σ fun σ' => c σ' h (fun b h1 => if b = true then e σ' h1 (fun y h2 => acc.length < sizeLine ∧ lcD g ok c e σ R xs (acc ++ [y]) h2) (fun _ _ _ => False) else lcD g ok c e σ R xs acc h1) (fun _ _ _ => False)

/-! ### expressions -/
abbrev FE := String → List D → DH → DQ → XQ → Prop
def rngD (ds : List D) (h : DH) (R : List D → (DH → Prop) → DH → Prop) : Prop := match ds with
  | [.int j] => -(2 ^ 62) ≤ j ∧ j < 2 ^ 62 ∧ R (rngL 0 j.toNat) (fun _ => True) h
  | [.int i, .int j] => (-(2 ^ 62) ≤ i ∧ i < 2 ^ 62 ∧ -(2 ^ 62) ≤ j ∧ j < 2 ^ 62) ∧ R (rngL i (j - i).toNat) (fun _ => True) h
  | [.int i, .int j, .int c] => ∃ n, RgC i j c n ∧ R (rngC i c n) (fun _ => True) h
  | _ => False
mutual
def evE (F : FE) : Ex → DE
  | .var i, σ, h, Q, _ => match σ[i]? with
    | some (some d) => Q d h
    | _ => False
  | .cst d, _, h, Q, _ => Q d h
  | .glb _ d, _, h, Q, _ => Q d h
  | .op o m a b, σ, h, Q, E => evE F a σ h (fun x h1 => evE F b σ h1 (fun y h2 => opD o m x y h2 Q) E) E
  | .neg a, σ, h, Q, E => evE F a σ h (fun x h1 => negD x h1 Q) E
  | .cmp c a b, σ, h, Q, E => evE F a σ h (fun x h1 => evE F b σ h1 (fun y h2 => cmpD c x y h2 fun r => Q (.bl r) h2) E) E
  | .chn c c' a b d, σ, h, Q, E => evE F a σ h (fun x h1 => evE F b σ h1 (fun y h2 => cmpD c x y h2 fun r => if r = true then evE F d σ h2 (fun z h3 => cmpD c' y z h3 fun r' => Q (.bl r') h3) E else Q (.bl false) h2) E) E
  | .and a es, σ, h, Q, E => evE F a σ h (fun x h1 => evAnd F es x σ h1 Q E) E
  | .or a es, σ, h, Q, E => evE F a σ h (fun x h1 => evOr F es x σ h1 Q E) E
  | .typ n, _, h, Q, _ => Q (.ty n) h
  | .not a, σ, h, Q, E => evE F a σ h (fun x h1 => bD x fun r => Q (.bl (!r)) h1) E
  | .ite c a b, σ, h, Q, E => evE F c σ h (fun x h1 => bD x fun r => if r = true then evE F a σ h1 Q E else evE F b σ h1 Q E) E
  | .tup es, σ, h, Q, E => evA F es σ h (fun ds h1 => ds.length ≤ sizeLine ∧ Q (.tup ds) h1) E
  | .lst m es, σ, h, Q, E => evA F es σ h (fun ds h1 => ds.length ≤ sizeLine ∧ newL m ds h1 Q) E
  | .ix a b, σ, h, Q, E => evE F a σ h (fun x h1 => evE F b σ h1 (fun y h2 => ixD x y h2 Q) E) E
  | .sl m a lo hi, σ, h, Q, E => evE F a σ h (fun x h1 => evO F lo σ h1 (fun l h2 => evO F hi σ h2 (fun u h3 => slD m x l u h3 Q) E) E) E
  | .call f es, σ, h, Q, E => evA F es σ h (fun ds h1 => F f ds h1 Q E) E
  | .bi f m es, σ, h, Q, E => evA F es σ h (fun ds h1 => biD f m ds h1 Q) E
  | .mt f o es, σ, h, Q, E => evE F o σ h (fun x h1 => lstAt h1 x ∧ evA F es σ h1 (fun ds h2 => mtD f x ds h2 Q) E) E
  | .tm f m o e, σ, h, Q, E => evE F o σ h (fun x h1 => isStrD x ∧ evE F e σ h1 (fun y h2 => tmD f m x y h2 Q) E) E
  | .dnew t, _, h, Q, _ => dnewD t h Q
  | .dget o k d, σ, h, Q, E => evE F o σ h (fun x h1 => isDic h1 x ∧ evE F k σ h1 (fun y h2 => evE F d σ h2 (fun z h3 => dget2D x y z h3 Q) E) E) E
  | .mxd e d, σ, h, Q, E => evE F e σ h (fun x h1 => evE F d σ h1 (fun z h2 => mxdD x z h2 Q) E) E
  | .lrng m a, σ, h, Q, E => evE F a σ h (fun x h1 => lrngD m x h1 Q) E
  | .ddsp k v, σ, h, Q, E => ∀ p, h p = none → evE F k σ (updD h p (.dT [])) (fun x h1 => evE F v σ h1 (fun y h2 => h2 p = some (.dT []) ∧ match dKey x with
      | some k => keyOk k ∧ Q (.ref p) (updD h2 p (.dT [(k, y)]))
      | none => False) E) E
  | .frz e, σ, h, Q, E => evE F e σ h (fun x h1 => frzD x h1 Q) E
  | .lc m own it tg c e, σ, h, Q, E => evI F it σ h (fun xs ok h1 => lcD (tnD tg) ok (evC F c) (evE F e) (wipeD σ (own.map (·.2))) (fun acc h2 => newL m acc h2 Q) xs [] h1) E
def evA (F : FE) : Exs → DA
  | .nil, _, h, Q, _ => Q [] h
  | .cons e es, σ, h, Q, E => evE F e σ h (fun x h1 => evA F es σ h1 (fun xs h2 => Q (x :: xs) h2) E) E
def evAnd (F : FE) : Exs → D → DE
  | .nil, x, _, h, Q, _ => Q x h
  | .cons e es, x, σ, h, Q, E => bD x fun r => if r = true then evE F e σ h (fun y h1 => evAnd F es y σ h1 Q E) E else Q (.bl false) h
def evOr (F : FE) : Exs → D → DE
  | .nil, x, _, h, Q, _ => Q x h
  | .cons e es, x, σ, h, Q, E => bD x fun r => if r = true then Q (.bl true) h else evE F e σ h (fun y h1 => evOr F es y σ h1 Q E) E
def evO (F : FE) : OE → DSt → DH → (Option Int → DH → Prop) → XQ → Prop
  | .non, _, h, Q, _ => Q none h
  | .som e, σ, h, Q, E => evE F e σ h (fun x h1 => match x with
    | .int i => Q (some i) h1
    | _ => False) E
def evC (F : FE) : OE → DT
  | .non, _, h, Q, _ => Q true h
  | .som e, σ, h, Q, E => evE F e σ h (fun x h1 => bD x fun r => Q r h1) E
def evI (F : FE) : Iw → DSt → DH → (List D → (DH → Prop) → DH → Prop) → XQ → Prop
  | .ex e, σ, h, R, E => evE F e σ h (fun x h1 => walkD x h1 fun xs ok => R xs ok h1) E
  | .rng es, σ, h, R, E => evA F es σ h (fun ds h1 => rngD ds h1 R) E
  | .enm e, σ, h, R, E => evE F e σ h (fun x h1 => walkL x h1 fun xs ok => R (enmL 0 xs) ok h1) E
  | .zip a b, σ, h, R, E => evE F a σ h (fun x h1 => evE F b σ h1 (fun y h2 => zipW x y h2 fun xs ok => R xs ok h2) E) E
  | .rev e, σ, h, R, E => evE F e σ h (fun x h1 => revW x h1 fun xs ok => R xs ok h1) E
end

/-! ### statements -/
mutual
def evS (F : FE) : Sm → DS
  | .asg t e, Z, σ, h => evE F e σ h (fun x h1 => tnD t x σ fun σ' => Z.nx σ' h1) fun c fs h' => Z.ex c fs σ h'
  | .par i j a b, Z, σ, h => evE F a σ h (fun x h1 => evE F b σ h1 (fun y h2 => Z.nx ((σ.set i (some x)).set j (some y)) h2) fun c fs h' => Z.ex c fs σ h') fun c fs h' => Z.ex c fs σ h'
  | .sub o i e, Z, σ, h => evE F e σ h (fun v h1 => evE F o σ h1 (fun x h2 => evE F i σ h2 (fun y h3 => setD x y v h3 fun h4 => Z.nx σ h4) fun c fs h' => Z.ex c fs σ h') fun c fs h' => Z.ex c fs σ h') fun c fs h' => Z.ex c fs σ h'
  | .exp e, Z, σ, h => evE F e σ h (fun _ h1 => Z.nx σ h1) fun c fs h' => Z.ex c fs σ h'
  | .ret e, Z, σ, h => evE F e σ h Z.rt fun c fs h' => Z.ex c fs σ h'
  | .retN, Z, _, h => Z.rt .non h
  | .ite c a b, Z, σ, h => evE F c σ h (fun x h1 => bD x fun r => if r = true then evSs F a Z σ h1 else evSs F b Z σ h1) fun c fs h' => Z.ex c fs σ h'
  | .whl c b, Z, σ, h => ∃ W : Nat → DSt → DH → Prop, (∃ m, W m σ h) ∧ ∀ m σ h, W m σ h → evE F c σ h (fun x h1 => bD x fun r =>
      if r = true then evSs F b { Z with nx := fun σ' h' => ∃ m', m' < m ∧ W m' σ' h', ct := fun σ' h' => ∃ m', m' < m ∧ W m' σ' h', bk := Z.nx } σ h1 else Z.nx σ h1) fun c fs h' => Z.ex c fs σ h'
  | .for t it b, Z, σ, h => evI F it σ h (fun xs ok h1 => forD (tnD t) ok (evSs F b) Z xs σ h1) fun c fs h' => Z.ex c fs σ h'
  | .brk, Z, σ, h => Z.bk σ h
  | .cnt, Z, σ, h => Z.ct σ h
  | .pas, Z, σ, h => Z.nx σ h
def evSs (F : FE) : Sms → DS
  | .nil, Z, σ, h => Z.nx σ h
  | .frz i r, Z, σ, h => match σ[i]? with
    | some (some d) => frzD d h fun d' h' => evSs F r Z (σ.set i (some d')) h'
    | _ => False
  | .cons s r, Z, σ, h => evS F s { Z with nx := evSs F r Z } σ h
end
/-! ### defs -/
structure Df where
  name : String
  np : Nat
  nl : Nat
  body : Sms
def startD (n : Nat) (ds : List D) : DSt := ds.map some ++ List.replicate (n - ds.length) none
def callD (tab : String → Option Df) : Nat → FE
  | 0, _, _, _, _, _ => False
  | k + 1, f, ds, h, Q, E => match tab f with
    | some d => ds.length = d.np ∧ evSs (callD tab k) d.body { nx := fun _ h' => Q .non h', rt := Q, ex := fun c fs _ h' => E c fs h' } (startD d.nl ds) h
    | none => False
end Deep

/-! Dp3: operators, calls of built-ins, by values. -/
namespace Deep
open PySem L2 PyProof.Rows
section
variable {S : Sx} {G G' : Gho} {dh : DH} {hid H : Hp} {v u : V} {d e : D}

/-! ### what a value is -/
theorem tup_of {K : FW} {ds : List D} (sm : Sim K G dh hid H) (r : RD K G v (.tup ds)) : ∃ a xs, v = .ref a ∧ SqT K H a xs ∧ RDs K G xs ds := by
  cases r with
  | tup g rs =>
    rcases g with g | g
    · exact ⟨_, _, rfl, .inl (.inl (sm.g _ _ g)), rs⟩
    · exact ⟨_, _, rfl, .inr g, rs⟩
theorem asL_of {K : FW} {ds : List D} (sm : Sim K G dh hid H) (r : RD K G v d) (h : asL dh d = some ds) : ∃ a xs, v = .ref a ∧ H a = some (.lst xs) ∧ RDs K G xs ds := by
  cases r with
  | lst g rs =>
    simp only [asL, Option.some.injEq] at h
    subst h
    exact ⟨_, _, rfl, sm.g _ _ g, rs⟩
  | ref a =>
    simp only [asL] at h
    split at h
    · rename_i xs hx
      cases h
      obtain ⟨_, vs, e1, r1⟩ := sm.d a _ hx
      exact ⟨a, vs, rfl, e1, r1⟩
    · cases h
  | _ => cases h
theorem asR_of {K : FW} {ds : List D} (sm : Sim K G dh hid H) (r : RD K G v d) (h : asR dh d = some ds) : ∃ a xs, v = .ref a ∧ SqL K H a xs ∧ RDs K G xs ds := by
  have lst : asL dh d = some ds → ∃ a xs, v = .ref a ∧ SqL K H a xs ∧ RDs K G xs ds := fun h => by
    obtain ⟨a, xs, e, h, rs⟩ := asL_of sm r h
    exact ⟨a, xs, e, SqL.of h, rs⟩
  cases d with
  | scr ns =>
    cases h
    cases r with
    | scr g =>
      rcases g with g | g
      · exact ⟨_, _, rfl, .inl (sm.g _ _ g), RDs.of_ints _⟩
      · exact ⟨_, _, rfl, .inr g, RDs.of_ints _⟩
  | _ => exact lst h
theorem asS_of {K : FW} {ds : List D} (sm : Sim K G dh hid H) (r : RD K G v d) (h : asS dh d = some ds) : ∃ a xs, v = .ref a ∧ (SqL K H a xs ∨ SqT K H a xs) ∧ RDs K G xs ds := by
  have lst : asR dh d = some ds → ∃ a xs, v = .ref a ∧ (SqL K H a xs ∨ SqT K H a xs) ∧ RDs K G xs ds := fun h => by
    obtain ⟨a, xs, e, h, rs⟩ := asR_of sm r h
    exact ⟨a, xs, e, .inl h, rs⟩
  cases d with
  | tup xs =>
    cases h
    obtain ⟨a, xs, e, h, rs⟩ := tup_of sm r
    exact ⟨a, xs, e, .inr h, rs⟩
  | _ => exact lst h

/-! ### new things -/
theorem new_tup {Q : VK} {Q' : DQ} {xs : List V} {ds : List D} (sm : Sim S.K G dh hid H) (r : RDs S.K G xs ds) (q : Q' (.tup ds) dh) (k : CQ S G hid Q Q') : ∀ p, H p = none → Q (.ref p) (upd H p (.tup xs)) := fun p hp => by
  obtain ⟨s', e⟩ := sm.newG (o := .tup xs) (k := .tup xs) hp upd_same
  exact k _ _ _ _ dh e s' (.tup (.inl updG_same) (RDs.mono e _ r)) q
theorem new_lst {Q : VK} {Q' : DQ} {xs : List V} {ds : List D} {m : LK} (sm : Sim S.K G dh hid H) (r : RDs S.K G xs ds) (q : newL m ds dh Q') (k : CQ S G hid Q Q') : ∀ p, H p = none → Q (.ref p) (upd H p (.lst xs)) := fun p hp => by
  cases m with
  | f =>
    obtain ⟨s', e⟩ := sm.newG (o := .lst xs) (k := .lst xs) hp upd_same
    exact k _ _ _ _ dh e s' (.lst updG_same (RDs.mono e _ r)) q
  | t => exact k G _ _ _ _ (GE.refl G) (sm.newD (k := .lst ds) hp ⟨xs, upd_same, r⟩) (.ref p) (q p (sm.dnone hp))
  | b =>
    simp only [newL] at q
    split at q
    · rename_i c s
      have ev : xs = [.int c, .int s] := RDs.ints (ns := [c, s]) r
      subst ev
      obtain ⟨s', e⟩ := sm.newG (o := .lst [.int c, .int s]) (k := .box) hp ⟨c, s, upd_same, q.1⟩
      exact k _ _ _ _ dh e s' (.box updG_same) (q.2 p)
    · exact q.elim

/-! ### rules by values -/
def SimR1 (S : Sx) (r : V → Hp → VK → Prop) (R : D → DH → DQ → Prop) : Prop := ∀ G hid dh H (Q : VK) (Q' : DQ) v d, Sim S.K G dh hid H → RD S.K G v d → R d dh Q' → CQ S G hid Q Q' → r v H Q
def SimR2 (S : Sx) (r : R2) (R : D → D → DH → DQ → Prop) : Prop := ∀ G hid dh H (Q : VK) (Q' : DQ) v u d e, Sim S.K G dh hid H → RD S.K G v d → RD S.K G u e → R d e dh Q' → CQ S G hid Q Q' → r v u H Q
def SimRC (S : Sx) (r : List V → Hp → VK → Prop) (R : List D → DH → DQ → Prop) : Prop := ∀ G hid dh H (Q : VK) (Q' : DQ) vs es, Sim S.K G dh hid H → RDs S.K G vs es → R es dh Q' → CQ S G hid Q Q' → r vs H Q
def SimRM (S : Sx) (r : V → List V → Hp → VK → Prop) (R : D → List D → DH → DQ → Prop) : Prop := ∀ G hid dh H (Q : VK) (Q' : DQ) v d vs es, Sim S.K G dh hid H → RD S.K G v d → RDs S.K G vs es → R d es dh Q' → CQ S G hid Q Q' → r v vs H Q
/-- the value stands as it is -/
theorem CQ.same {Q : VK} {Q' : DQ} (k : CQ S G hid Q Q') (sm : Sim S.K G dh hid H) (r : RD S.K G v d) (q : Q' d dh) : Q v H := k G H v d dh (GE.refl G) sm r q

/-! ### operators -/
def rAddS : R2 := fun x y H Q => ∃ i j, x = .str i ∧ y = .str j ∧ i.length + j.length ≤ sizeLine ∧ Q (.str (i ++ j)) H
def rAddAll (K : PySem.W.Frag) : R2 := fun x y H Q => rI0 (fun i j => .int (i + j)) x y H Q ∨ (rAddS x y H Q ∨ (rCatA K x y H Q ∨ rCat x y H Q))
def rOp (K : PySem.W.Frag) : Op → R2
  | .add => rAddAll K
  | .sub => rI0 fun i j => .int (i - j)
  | .mul => fun x y H Q => rI MulOk (fun i j => .int (i * j)) x y H Q ∨ (rMulS x y H Q ∨ (rRep x y H Q ∨ rRepA K x y H Q))
  | .fdiv => rI FdOk fun i j => .int (i.fdiv j)
  | .mod => rI (fun _ j => j ≠ 0) fun i j => .int (i.fmod j)
  | .pow => rI CPow fun i j => .int (i ^ j.toNat)
  | .shl => rI CPow fun i j => .int (i * 2 ^ j.toNat)
  | .shr => rI (fun _ j => 0 ≤ j) fun i j => .int (i / 2 ^ j.toNat)
  | .band => rI0 fun i j => .int (Builtin.bitAnd i j)
  | .bxor => rI0 fun i j => .int (Builtin.bitXor i j)
def opS : Op → Operator
  | .add => .Add
  | .sub => .Sub
  | .mul => .Mult
  | .fdiv => .FloorDiv
  | .mod => .Mod
  | .pow => .Pow
  | .shl => .LShift
  | .shr => .RShift
  | .band => .BitAnd
  | .bxor => .BitXor
theorem op_fdivX {X : Cx} : OpR X (binaryOp .FloorDiv) (rI FdOk fun i j => .int (i.fdiv j)) := opI fun _ _ _ _ _ _ _ hc q => floordiv_int hc.1 q (.inl hc.2)
theorem op_ok {X : Cx} : ∀ o : Op, OpR X (binaryOp (opS o)) (rOp X.K o)
  | .add => op_add.or (op_add_str.or (op_catA.or op_cat))
  | .sub => op_sub
  | .mul => OpR.or (opI fun _ _ _ _ _ _ _ hc q => mul_int q (hc.elim CMul.ok CMulX.ok)) (op_mulS.or (op_rep.or op_repA))
  | .fdiv => op_fdivX
  | .mod => op_modN
  | .pow => op_pow
  | .shl => op_shl
  | .shr => op_shr
  | .band => op_and
  | .bxor => op_xor
theorem new_tupA {K : FW} {Q : VK} {Q' : DQ} {a b : Addr} {xs ys : List V} {ds es : List D} (sm : Sim S.K G dh hid H) (ra : RD S.K G (.ref a) (.tup ds)) (rb : RD S.K G (.ref b) (.tup es)) (r : RDs S.K G xs ds) (r' : RDs S.K G ys es) (q : Q' (.tup (ds ++ es)) dh) (k : CQ S G hid Q Q') :
    (xs = [] → Q (.ref b) H) ∧ (xs ≠ [] → ys = [] → Q (.ref a) H) ∧ (xs ≠ [] → ys ≠ [] → ∀ p, H p = none → Q (.ref p) (upd H p (.tup (xs ++ ys)))) := by
  refine ⟨fun e => ?_, fun _ e => ?_, fun _ _ => new_tup sm (r.append r') q k⟩
  · subst e
    cases r
    exact k.same sm rb q
  · subst e
    cases r'
    rw [List.append_nil] at q
    exact k.same sm ra q
theorem RDs.rep {K : FW} {vs : List V} {ds : List D} (h : RDs K G vs ds) : ∀ n : Nat, RDs K G (List.replicate n vs).flatten (List.replicate n ds).flatten
  | 0 => .nil
  | n + 1 => by
    rw [List.replicate_succ, List.replicate_succ, List.flatten_cons, List.flatten_cons]
    exact h.append (RDs.rep h n)
theorem sim_op (o : Op) (m : LK) : SimR2 S (rOp S.K o) (opD o m) := by
  intro G hid dh H Q Q' v u d e sm rv ru h k
  have cat : ∀ xs ys, asL dh d = some xs → asL dh e = some ys → xs.length + ys.length ≤ sizeLine → newL m (xs ++ ys) dh Q' → rCat v u H Q := fun xs ys e1 e2 z q => by
    obtain ⟨a, vs, rfl, h1, r1⟩ := asL_of sm rv e1
    obtain ⟨b, us, rfl, h2, r2⟩ := asL_of sm ru e2
    exact ⟨a, b, vs, us, rfl, rfl, h1, h2, by rw [r1.length, r2.length]; exact z, new_lst sm (r1.append r2) q k⟩
  unfold opD at h
  split at h
  · cases rv; cases ru; exact .inl ⟨_, _, rfl, rfl, k.same sm (.int _) h⟩
  · cases rv; cases ru; exact .inr (.inl ⟨_, _, rfl, rfl, h.1, k.same sm (.str _) h.2⟩)
  · obtain ⟨a, vs, rfl, h1, r1⟩ := tup_of sm rv
    obtain ⟨b, us, rfl, h2, r2⟩ := tup_of sm ru
    exact .inr (.inr (.inl ⟨a, b, vs, us, rfl, rfl, h1, h2, by rw [r1.length, r2.length]; exact h.1, new_tupA (K := S.K) sm rv ru r1 r2 h.2 k⟩))
  · split at h
    · rename_i xs ys e1 e2
      exact .inr (.inr (.inr (cat xs ys e1 e2 h.1 h.2)))
    · exact h.elim
  · cases rv; cases ru; exact ⟨_, _, rfl, rfl, k.same sm (.int _) h⟩
  · cases rv; cases ru; exact .inl ⟨_, _, rfl, rfl, h.1, k.same sm (.int _) h.2⟩
  · cases rv; cases ru; exact .inr (.inl ⟨_, _, rfl, rfl, h.1, k.same sm (.str _) h.2⟩)
  · have rv' := rv
    obtain ⟨a, xs, rfl, h1, r1⟩ := tup_of sm rv
    cases ru
    obtain ⟨⟨b1, b2, b3, b4⟩, q⟩ := h
    refine .inr (.inr (.inr ⟨a, _, xs, rfl, rfl, h1, fun z => ?_, b2, b3, by rw [r1.length]; exact b4, fun z => ?_, fun z => new_tup sm (r1.rep _) q k⟩))
    · subst z
      cases r1
      exact b1 rfl
    · subst z
      refine k.same sm rv' ?_
      simpa using q
  · split at h
    · rename_i xs e1
      obtain ⟨a, vs, rfl, h1, r1⟩ := asL_of sm rv e1
      cases ru
      exact .inr (.inr (.inl ⟨a, _, vs, rfl, rfl, h1, h.1.1, h.1.2.1, by rw [r1.length]; exact h.1.2.2, new_lst sm (r1.rep _) h.2 k⟩))
    · exact h.elim
  · cases rv; cases ru; exact ⟨_, _, rfl, rfl, h.1, k.same sm (.int _) h.2⟩
  · cases rv; cases ru; exact ⟨_, _, rfl, rfl, h.1, k.same sm (.int _) h.2⟩
  · cases rv; cases ru; exact ⟨_, _, rfl, rfl, h.1, k.same sm (.int _) h.2⟩
  · cases rv; cases ru; exact ⟨_, _, rfl, rfl, h.1, k.same sm (.int _) h.2⟩
  · cases rv; cases ru; exact ⟨_, _, rfl, rfl, h.1, k.same sm (.int _) h.2⟩
  · cases rv; cases ru; exact ⟨_, _, rfl, rfl, k.same sm (.int _) h⟩
  · cases rv; cases ru; exact ⟨_, _, rfl, rfl, k.same sm (.int _) h⟩
  · exact h.elim

/-! ### comparisons -/
mutual
theorem toP_dp {K : FW} (sm : Sim K G dh hid H) : ∀ (d : D) {v : V} {p : PyData}, RD K G v d → toP d = some p → Dp K H v p
  | .non, _, _, r, e => by cases r; cases e; exact .non
  | .bl b, _, _, r, e => by cases r; cases e; exact .bl b
  | .int b, _, _, r, e => by cases r; cases e; exact .int b
  | .str b, _, _, r, e => by cases r; cases e; exact .str b
  | .tup ds, _, _, r, e => by
    obtain ⟨a, xs, rfl, h, rs⟩ := tup_of sm r
    simp only [toP, Option.map_eq_some_iff] at e
    obtain ⟨ps, e1, rfl⟩ := e
    exact .tup h (toPs_dp sm ds rs e1)
  | .lst ds, _, _, r, e => by
    simp only [toP, Option.map_eq_some_iff] at e
    obtain ⟨ps, e1, rfl⟩ := e
    cases r with
    | lst g rs => exact .lst (SqL.of (sm.g _ _ g)) (toPs_dp sm ds rs e1)
  | .dk _ _, _, _, _, e => by cases e
  | .dt _ _, _, _, _, e => by cases e
  | .ref _, _, _, _, e => by cases e
  | .box _, _, _, _, e => by cases e
  | .ty _, _, _, _, e => by cases e
  | .scr _, _, _, _, e => by cases e
theorem toPs_dp {K : FW} (sm : Sim K G dh hid H) : ∀ (ds : List D) {vs : List V} {ps : List PyData}, RDs K G vs ds → toPs ds = some ps → DpAll K H vs ps
  | [], _, _, r, e => by cases r; cases e; exact .nil
  | d :: ds, _, _, r, e => by
    cases r with
    | cons r1 r2 =>
      simp only [toPs] at e
      split at e
      · rename_i y ys e1 e2
        cases e
        exact .cons (toP_dp sm d r1 e1) (toPs_dp sm ds r2 e2)
      · cases e
end
theorem topP_dp {K : FW} {p : PyData} (sm : Sim K G dh hid H) (r : RD K G v d) (e : topP dh d = some p) : Dp K H v p := by
  unfold topP at e
  split at e
  · rename_i a
    split at e
    · rename_i xs hx
      simp only [Option.map_eq_some_iff] at e
      obtain ⟨ps, e1, rfl⟩ := e
      cases r
      obtain ⟨_, vs, e2, r1⟩ := sm.d a _ hx
      exact .lst (SqL.of e2) (toPs_dp sm xs r1 e1)
    · cases e
  · exact toP_dp sm d r e
/-! ### dicts -/
mutual
theorem toP_keyD : ∀ k : NKey, toP (keyD k) = some k.data
  | .none => by simp only [keyD, toP, NestedKey.data]
  | .num i => by simp only [keyD, toP, NestedKey.data]
  | .text x => by simp only [keyD, toP, NestedKey.data]
  | .tup ks => by simp only [keyD, toP, NestedKey.data, toPs_keyDs ks, Option.map_some]
theorem toPs_keyDs : ∀ ks : List NKey, toPs (keyDs ks) = some (NestedKey.datas ks)
  | [] => by simp only [keyDs, toPs, NestedKey.datas]
  | k :: ks => by simp only [keyDs, toPs, NestedKey.datas, toP_keyD k, toPs_keyDs ks]
end
/-- what stands at y in the dict at a -/
def DLook (K : FW) (H : Hp) (a : Addr) (y : V) (r : Option V) : Prop := (∃ kvs k, Rd H a (.dK kvs) ∧ y = kV k ∧ r = valV kvs k) ∨ ∃ vs k b, RdX K K.w H a vs ∧ KeyX K H y k b ∧ r = valX vs k
def DIs (K : FW) (H : Hp) (a : Addr) : Prop := (∃ kvs, Rd H a (.dK kvs)) ∨ ∃ vs, RdX K K.w H a vs
abbrev xw (X : Cx) : FW := ⟨X.K, X.w⟩
section
variable {X : Cx}
theorem isDX_at {pins : List (Addr × Obj)} {σ : L2.St} {H : Hp} {s : Shared} {a : Addr} (I : Inv X pins σ H s) (d : DIs (xw X) H a) : s.TypeIs (.ref a) "dict" ∧ ∀ b, Value.ref a = .ref b → ∃ ob, s.heap.get? b = some ob ∧ ob.dict = none := by
  rcases d with ⟨kvs, e⟩ | ⟨vs, e⟩
  · obtain ⟨t1, t2, _⟩ := isD_at I (.inl ⟨kvs, e⟩)
    exact ⟨t1, t2⟩
  · obtain ⟨xs, _, dd⟩ := dx_of I e
    refine ⟨dd.typeIs, fun b q => ?_⟩
    cases q
    obtain ⟨ob, _, _, h1, h2, _⟩ := dd
    exact ⟨ob, h1, h2.2.1⟩
theorem DLook.is {K : FW} {H : Hp} {a : Addr} {y : V} {r : Option V} (h : DLook K H a y r) : DIs K H a := by
  rcases h with ⟨kvs, k, e, _⟩ | ⟨vs, k, b, e, _⟩
  · exact .inl ⟨kvs, e⟩
  · exact .inr ⟨vs, e⟩
theorem subTail_any {prog : Program} {w : World} {A : Around} {E : Value → Shared → Prop} {s : Shared} {value slice : Expr} {o i : Value} {T id : String} {Q : Value → Shared → Prop} (hT : s.TypeIs o T)
    (hl : typeLookup (.type T) "__getitem__" = pure (some (.builtin id))) (h : wpAny (model prog w) A (getItem o i) Q E s)
    (hs : subscripted slice false o i = operate [o, i] (getItem o i)) : wpAny (model prog w) A (subscriptTail value slice o i) Q E s := by
  unfold subscriptTail
  refine wpAny_bind ?_
  rw [getitemInPython_of_ne hT.not_modules]
  refine wpAny_bind (wpAny_specialOf hT hl ?_)
  have fin : wpAny (model prog w) A (subscripted slice false o i) (fun r s₃ => wpAny (model prog w) A (letTemporaryGo value o r >>= fun _ => pure r) Q E s₃) E s := by
    rw [hs]
    exact wpAny_operating (wpAny_mono h (fun r s₃ h₃ => wpAny_bind (wpAny_letTemporaryGo (wpAny_pure h₃))) fun _ _ x => x)
  first
    | exact wpAny_pure (wpAny_bind fin)
    | exact wpAny_bind fin
    | exact fin
/-- d[y] -/
def rIxD (K : FW) : R2 := fun x y H Q => ∃ a v, x = .ref a ∧ DLook K H a y (some v) ∧ Q v H
theorem ix_dict (hu : X.A.units + 200 < cLine) : IxR X (rIxD (xw X)) := by
  intro value slice pins s σ H x y v u Q I rx ry h hs
  obtain ⟨a, r, rfl, g, q⟩ := h
  cases rx
  refine subTail_any (isDX_at I g.is).1 PySem.F.slot_dict_getitem.lookup ?_ hs
  rcases g with ⟨kvs, k, e, rfl, e2⟩ | ⟨vs, k, b, e, hk, e2⟩
  · exact d_getItem (by omega) I (e2 ▸ (.inl ⟨kvs, k, e, rfl, rfl⟩ : DGet H a (kV k) (valV kvs k))) ry fun w' s3 I3 rw' => ⟨r, H, I3, rw', q⟩
  · exact x_getItem hu I e hk e2.symm ry fun w' s3 I3 rw' => ⟨r, H, I3, rw', q⟩
/-- y in d -/
def rInD (K : FW) (n : Bool) : R2 := fun x y H Q => ∃ a o, y = .ref a ∧ DLook K H a x o ∧ Q (.bl (if n = true then !o.isSome else o.isSome)) H
theorem op_inD (hu : X.A.units + 200 < cLine) : OpR X (compareOp .In) (rInD (xw X) false) := by
  intro pins s σ H x y v u Q I rx ry h
  obtain ⟨a, o, rfl, g, q⟩ := h
  cases ry
  rcases g with ⟨kvs, k, e, rfl, rfl⟩ | ⟨vs, k, b, e, hk, rfl⟩
  · exact d_in (by omega) I (.inl ⟨kvs, k, e, rfl, rfl⟩ : DGet H a (kV k) (valV kvs k)) rx fun s3 I3 => ⟨.bl _, H, I3, rfl, q⟩
  · exact x_in hu I e hk rx fun s3 I3 => ⟨.bl _, H, I3, rfl, q⟩
theorem op_notInD (hu : X.A.units + 200 < cLine) : OpR X (compareOp .NotIn) (rInD (xw X) true) := by
  intro pins s σ H x y v u Q I rx ry h
  obtain ⟨a, o, rfl, g, q⟩ := h
  cases ry
  rcases g with ⟨kvs, k, e, rfl, rfl⟩ | ⟨vs, k, b, e, hk, rfl⟩
  · exact d_notIn (by omega) I (.inl ⟨kvs, k, e, rfl, rfl⟩ : DGet H a (kV k) (valV kvs k)) rx fun s3 I3 => ⟨.bl _, H, I3, rfl, q⟩
  · exact x_notIn hu I e hk rx fun s3 I3 => ⟨.bl _, H, I3, rfl, q⟩
/-- d[y] = v -/
def rSetD (K : FW) : V → V → V → Hp → (Hp → Prop) → Prop := fun o i v H Q => ∃ a, o = .ref a ∧ ((∃ kvs k, H a = some (.dK kvs) ∧ i = kV k ∧ kvs.length < sizeLine ∧ Q (upd H a (.dK (putK kvs k v)))) ∨
  ∃ vs k b, H a = some (rawO K.w a vs) ∧ DXt K H a vs ∧ KeyX K H i k b ∧ Q (upd H a (rawO K.w a (putX vs k b v))))
theorem set_dict (hu : X.A.units + 200 < cLine) : PSet X (rSetD (xw X)) := by
  intro pins s σ H o i v ov iv u Q I ro ri rv h
  obtain ⟨a, rfl, h⟩ := h
  cases ro
  rcases h with ⟨kvs, k, e, rfl, hl, q⟩ | ⟨vs, k, b, e, t, hk, q⟩
  · exact d_setItem (by omega) I (DPut.k e hl) ri rv fun s' I' => ⟨_, I', q⟩
  · exact x_setItem hu I e t hk ri rv fun s' I' => ⟨_, I', q⟩
/-- len(d) -/
def rLenD (K : FW) : List V → Hp → VK → Prop := fun xs H Q => ∃ a, xs = [.ref a] ∧ ((∃ kvs, Rd H a (.dK kvs) ∧ Q (.int kvs.length) H) ∨ ∃ vs, RdX K K.w H a vs ∧ Q (.int vs.length) H)
theorem cr_lenD : CallR X (.builtin "len") (rLenD (xw X)) := by
  intro pins s σ H xs us Q I r h
  obtain ⟨a, rfl, h⟩ := h
  obtain ⟨u, rfl, rx⟩ := vals1 r
  cases rx
  rcases h with ⟨kvs, e, q⟩ | ⟨vs, e, q⟩
  · exact d_len I e fun t s' I' => ⟨.int _, H, I', ⟨t, rfl⟩, q⟩
  · exact x_len I e fun t s' I' => ⟨.int _, H, I', ⟨t, rfl⟩, q⟩
/-- d.get(y, z) -/
def tDGetX (K : FW) (td ty tx : TE) : TE := fun σ H Q => td σ H fun x H1 => ∃ a, x = .ref a ∧ DIs K H1 a ∧ ty σ H1 fun y H2 => tx σ H2 fun z H3 => ∃ o, DLook K H3 a y o ∧ Q (o.getD z) H3
theorem pe_dgetX {o e f : Expr} {apos cpos : Pos} {td ty tx : TE} (hu : X.A.units + 200 < cLine) (ho : PE X o td) (he : PE X e ty) (hf : PE X f tx) (m : M2 X o "get" apos e f cpos) : PE X (.Call (.Attribute o "get" apos) [e, f] [] cpos) (tDGetX (xw X) td ty tx) := by
  refine ⟨fun pins s σ H Q I h => ?_⟩
  refine wpAny_Call_method m.base m.few m.line PySem.F.plainAttrs_dict PySem.F.slot_dict_get PySem.F.type_dict_get (thn (ho.run pins s σ H _ I h) fun u s1 ⟨x, H1, I1, rx, a, ex, d, q1⟩ => ?_)
  subst ex
  obtain rfl : u = Value.ref a := rx
  obtain ⟨t1, t2⟩ := isDX_at I1 d
  refine ⟨t1, t2, ?_⟩
  rw [m.trees]
  refine Calls.callWith_builtin rfl (Calls.evalArgs_plain (Calls.spliced_cons (thn (he.run pins s1 σ H1 _ I1 q1) fun iv s2 ⟨y, H2, I2, ry, q2⟩ =>
    Calls.spliced_cons (thn (hf.run pins s2 σ H2 _ I2 q2) fun fv s3 ⟨z, H3, I3, rz, ov, g, q3⟩ => Calls.spliced_nil ?_))))
  rcases g with ⟨kvs, k, e, rfl, rfl⟩ | ⟨vs, k, b, e, hk, rfl⟩
  · exact d_get2 (by omega) I3 (.inl ⟨kvs, k, e, rfl, rfl⟩ : DGet H3 a (kV k) (valV kvs k)) ry rz fun w' s4 I4 rw' => ⟨_, H3, I4, rw', q3⟩
  · exact x_get2 hu I3 e hk ry rz fun w' s4 I4 rw' => ⟨_, H3, I4, rw', q3⟩
end
/-! dicts as data -/
def RDo (K : FW) (G : Gho) : Option V → Option D → Prop
  | some v, some d => RD K G v d
  | none, none => True
  | _, _ => False
theorem RKs.look {κ : Type} [DecidableEq κ] {K : FW} (k : κ) : ∀ {vs : List (κ × V)} {ds : List (κ × D)}, RKs K G vs ds → RDo K G (valV vs k) (valK ds k)
  | _, _, .nil => True.intro
  | _, _, .cons (k := k') (v := v) (vs := vs) (d := d) (ds := ds) a b => by
    by_cases e : k' = k
    · rw [valV_pos e, show valK ((k', d) :: ds) k = some d by simp [valK, List.find?_cons, e]]
      exact a
    · rw [valV_neg e, show valK ((k', d) :: ds) k = valK ds k by simp [valK, List.find?_cons, e]]
      exact RKs.look k b
theorem RXs.look {K : FW} (k : NKey) : ∀ {vs : List Ent3} {ds : List (NKey × D)}, RXs K G vs ds → RDo K G (valX vs k) (valK ds k)
  | _, _, .nil => True.intro
  | _, _, .cons (k := k') (b := b) (v := v) (vs := vs) (d := d) (ds := ds) _ a c => by
    by_cases e : k' = k
    · rw [valX_pos e, show valK ((k', d) :: ds) k = some d by simp [valK, List.find?_cons, e]]
      exact a
    · rw [valX_neg e, show valK ((k', d) :: ds) k = valK ds k by simp [valK, List.find?_cons, e]]
      exact RXs.look k c
theorem RDo.isSome {K : FW} {o : Option V} {p : Option D} (h : RDo K G o p) : o.isSome = p.isSome := by
  cases o <;> cases p <;> first
    | rfl
    | exact h.elim
theorem RKs.map {κ : Type} [DecidableEq κ] {K : FW} (k : κ) {v : V} {d : D} (r : RD K G v d) : ∀ {vs : List (κ × V)} {ds : List (κ × D)}, RKs K G vs ds → RKs K G (vs.map fun x => if x.1 = k then (x.1, v) else x) (ds.map fun x => if x.1 = k then (x.1, d) else x)
  | _, _, .nil => .nil
  | _, _, .cons (k := k') a b => by
    rw [List.map_cons, List.map_cons]
    by_cases e : k' = k
    · rw [if_pos e, if_pos e]; exact .cons r (RKs.map k r b)
    · rw [if_neg e, if_neg e]; exact .cons a (RKs.map k r b)
theorem RKs.snoc {κ : Type} {K : FW} {k : κ} {v : V} {d : D} (r : RD K G v d) : ∀ {vs : List (κ × V)} {ds : List (κ × D)}, RKs K G vs ds → RKs K G (vs ++ [(k, v)]) (ds ++ [(k, d)])
  | _, _, .nil => .cons r .nil
  | _, _, .cons a b => .cons a (RKs.snoc r b)
theorem RKs.put {κ : Type} [DecidableEq κ] {K : FW} (k : κ) {v : V} {d : D} (r : RD K G v d) {vs : List (κ × V)} {ds : List (κ × D)} (h : RKs K G vs ds) : RKs K G (putK vs k v) (putD ds k d) := by
  unfold putK putD
  rw [valV_any, (h.look k).isSome]
  split
  · exact RKs.map k r h
  · exact RKs.snoc r h
theorem RXs.map {K : FW} (k : NKey) {v : V} {d : D} (r : RD K G v d) : ∀ {vs : List Ent3} {ds : List (NKey × D)}, RXs K G vs ds → RXs K G (vs.map (replX k v)) (ds.map fun x => if x.1 = k then (x.1, d) else x)
  | _, _, .nil => .nil
  | _, _, .cons (k := k') a b c => by
    rw [List.map_cons, List.map_cons]
    unfold replX
    by_cases e : k' = k
    · rw [if_pos e, if_pos e]; exact .cons a r (RXs.map k r c)
    · rw [if_neg e, if_neg e]; exact .cons a b (RXs.map k r c)
theorem RXs.snoc {K : FW} {k : NKey} {b : Addr} {v : V} {d : D} (rk : RD K G (.ref b) (keyD k)) (r : RD K G v d) : ∀ {vs : List Ent3} {ds : List (NKey × D)}, RXs K G vs ds → RXs K G (vs ++ [(k, b, v)]) (ds ++ [(k, d)])
  | _, _, .nil => .cons rk r .nil
  | _, _, .cons a b c => .cons a b (RXs.snoc rk r c)
theorem RXs.put {K : FW} {k : NKey} {b : Addr} {v : V} {d : D} (rk : RD K G (.ref b) (keyD k)) (r : RD K G v d) {vs : List Ent3} {ds : List (NKey × D)} (h : RXs K G vs ds) : RXs K G (putX vs k b v) (putD ds k d) := by
  unfold putX putD
  rw [(h.look k).isSome]
  split
  · exact RXs.map k r h
  · exact RXs.snoc rk r h
theorem valX_none {vs : List Ent3} {k : NKey} (h : ¬ (valX vs k).isSome = true) : k ∉ vs.map (·.1) := fun hm => by
  obtain ⟨x, hx, rfl⟩ := List.mem_map.mp hm
  apply h
  unfold valX
  rw [Option.isSome_map, List.find?_isSome]
  exact ⟨x, hx, by simp⟩
theorem DtOk.put {a b : Addr} {vs : List Ent3} {k : NKey} {v : V} (h : DtOk a vs) (hk : k.depth ≤ 8) (hz : vs.length < sizeLine) : DtOk a (putX vs k b v) := by
  refine ⟨Nat.le_trans (putX_len vs k b v) hz, h.ns, ?_, fun x hx => ?_⟩
  · unfold putX
    split
    · rw [List.map_map]
      have e : ((fun x : Ent3 => x.1) ∘ replX k v) = fun x => x.1 := by
        funext x
        simp only [Function.comp, replX]
        split <;> rfl
      rw [e]
      exact h.nd
    · rename_i hn
      rw [List.map_append, List.nodup_append]
      refine ⟨h.nd, by simp, fun x hx y hy e => ?_⟩
      simp only [List.map_cons, List.map_nil, List.mem_singleton] at hy
      subst hy e
      exact valX_none hn hx
  · rcases putX_mem hx with ⟨y, hy, e1, e2⟩ | ⟨e1, _⟩
    · rw [← e1]; exact h.dp y hy
    · rw [e1]; exact hk
theorem RXs.keysDp {K : FW} (sm : Sim K G dh hid H) : ∀ {vs : List Ent3} {ds : List (NKey × D)}, RXs K G vs ds → ∀ x ∈ vs, Dp K H (.ref x.2.1) x.1.data
  | _, _, .nil => fun x h => nomatch h
  | _, _, .cons a b c => fun x hx => by
    rcases List.mem_cons.mp hx with e | hx
    · subst e
      exact toP_dp sm _ a (toP_keyD _)
    · exact RXs.keysDp sm c x hx
theorem DtOk.x {K : FW} {a : Addr} {vs : List Ent3} {ds : List (NKey × D)} (sm : Sim K G dh hid H) (h : DtOk a vs) (r : RXs K G vs ds) : DXt K H a vs := ⟨h.z, h.ns, h.nd, fun x hx => ⟨RXs.keysDp sm r x hx, h.dp x hx⟩⟩
theorem RXs.join {K : FW} : ∀ {vs : List Ent3} {ks ds : List D} {ns : List NKey}, dKeys ks = some ns → ns = vs.map (·.1) → RDs K G (vs.map fun x => V.ref x.2.1) ks → RDs K G (vs.map (·.2.2)) ds → RXs K G vs (ns.zip ds)
  | [], ks, ds, ns, e, e2, r, r' => by
    subst e2
    exact .nil
  | (k, b, v) :: vs, ks, ds, ns, e, e2, r, r' => by
    subst e2
    cases r with
    | @cons _ _ kd kds a1 a2 =>
      cases r' with
      | cons b1 b2 =>
        simp only [dKeys] at e
        split at e
        · rename_i y ys q1 q2
          simp only [List.map_cons, Option.some.injEq, List.cons.injEq] at e
          obtain ⟨rfl, e4⟩ := e
          rw [keyD_of kd q1] at a1
          exact .cons a1 b1 (RXs.join (by rw [q2, e4]) rfl a2 b2)
        · cases e
/-- a dict as data is one -/
theorem dv_of {K : FW} {dv : DV} (sm : Sim K G dh hid H) (r : RD K G v d) (e : asD dh d = some dv) : ∃ a, v = .ref a ∧ ((∃ kvs vs, dv = .k kvs ∧ Rd H a (.dK vs) ∧ RKs K G vs kvs) ∨ ∃ kvs vs, dv = .t kvs ∧ RdX K K.w H a vs ∧ RXs K G vs kvs) := by
  cases r with
  | ref a =>
    simp only [asD] at e
    split at e
    · rename_i kvs hx
      cases e
      obtain ⟨_, vs, e1, r1⟩ := sm.d a _ hx
      exact ⟨a, rfl, .inl ⟨_, vs, rfl, .inl e1, r1⟩⟩
    · rename_i kvs hx
      cases e
      obtain ⟨_, vs, e1, t, r1⟩ := sm.d a _ hx
      exact ⟨a, rfl, .inr ⟨_, vs, rfl, ⟨.inl e1, t.x sm r1⟩, r1⟩⟩
    · cases e
  | dk g l rs =>
    cases e
    exact ⟨_, rfl, .inl ⟨_, _, rfl, .inr ⟨_, sm.g _ _ g⟩, RKs.join l rs⟩⟩
  | dt g l rs rs' =>
    simp only [asD, l] at e
    cases e
    obtain ⟨e1, t⟩ := sm.g _ _ g
    have r1 := RXs.join l rfl rs rs'
    exact ⟨_, rfl, .inr ⟨_, _, rfl, ⟨.inr ⟨_, e1⟩, t.x sm r1⟩, r1⟩⟩
  | _ => cases e
theorem kKey_of {K : FW} {k : Key} (r : RD K G u e) (h : kKey e = some k) : u = kV k := by
  cases r <;> first
    | (cases h; rfl)
    | cases h
theorem xKey_of {K : FW} {k : NKey} (sm : Sim K G dh hid H) (r : RD K G u e) (h : dKey e = some k) (hk : keyOk k) : ∃ b, KeyX K H u k b ∧ RD K G (.ref b) (keyD k) := by
  obtain ⟨hd, ks, rfl⟩ := hk
  have ee := keyD_of e h
  subst ee
  have q := toP_dp sm _ r (toP_keyD _)
  have r' := r
  simp only [keyD] at r
  cases r with
  | @tup a _ _ g rs => exact ⟨a, ⟨rfl, q, hd⟩, r'⟩
theorem lookD_of {K : FW} {dv : DV} {R : Option D → Prop} (sm : Sim K G dh hid H) (rv : RD K G v d) (ru : RD K G u e) (h1 : asD dh d = some dv) (h : lookD dv e R) : ∃ a o p, v = .ref a ∧ DLook K H a u o ∧ RDo K G o p ∧ R p := by
  obtain ⟨a, rfl, h2⟩ := dv_of sm rv h1
  rcases h2 with ⟨kvs, vs, rfl, e1, r1⟩ | ⟨kvs, vs, rfl, e1, r1⟩
  · simp only [lookD] at h
    split at h
    · rename_i k hk
      exact ⟨a, _, _, rfl, .inl ⟨vs, k, e1, kKey_of ru hk, rfl⟩, r1.look k, h⟩
    · exact h.elim
  · simp only [lookD] at h
    split at h
    · rename_i k hk
      obtain ⟨b, hx, _⟩ := xKey_of sm ru hk h.1
      exact ⟨a, _, _, rfl, .inr ⟨vs, k, b, e1, hx, rfl⟩, r1.look k, h.2⟩
    · exact h.elim
theorem dgetD_of {Q : VK} {Q' : DQ} (sm : Sim S.K G dh hid H) (rv : RD S.K G v d) (ru : RD S.K G u e) (h : dgetD d e dh Q') (k : CQ S G hid Q Q') : rIxD S.K v u H Q := by
  unfold dgetD at h
  split at h
  · rename_i dv h1
    obtain ⟨a, o, p, rfl, g, r, q⟩ := lookD_of sm rv ru h1 h
    cases p with
    | none => exact q.elim
    | some y =>
      cases o with
      | none => exact r.elim
      | some x => exact ⟨a, x, rfl, g, k.same sm r q⟩
  · exact h.elim
theorem dinD_of {K : FW} {R : Bool → Prop} (sm : Sim K G dh hid H) (rv : RD K G v d) (ru : RD K G u e) (h : dinD d e dh R) : ∃ a o, u = .ref a ∧ DLook K H a v o ∧ R o.isSome := by
  unfold dinD at h
  split at h
  · rename_i dv h1
    obtain ⟨a, o, p, rfl, g, r, q⟩ := lookD_of sm ru rv h1 h
    exact ⟨a, o, rfl, g, by rw [r.isSome]; exact q⟩
  · exact h.elim
theorem isDic_of {K : FW} (sm : Sim K G dh hid H) (r : RD K G v d) (h : isDic dh d) : ∃ a, v = .ref a ∧ DIs K H a := by
  obtain ⟨dv, e⟩ := Option.isSome_iff_exists.mp h
  obtain ⟨a, rfl, h2⟩ := dv_of sm r e
  rcases h2 with ⟨kvs, vs, rfl, e1, r1⟩ | ⟨kvs, vs, rfl, e1, r1⟩
  · exact ⟨a, rfl, .inl ⟨_, e1⟩⟩
  · exact ⟨a, rfl, .inr ⟨_, e1⟩⟩
def rEqAll (K : FW) : R2 := fun x y H Q => rEq x y H Q ∨ (rEqD K x y H Q ∨ rEqX K K.w false x y H Q)
def rNeAll (K : FW) : R2 := fun x y H Q => rNe x y H Q ∨ (rNeD K x y H Q ∨ rEqX K K.w true x y H Q)
theorem dec_V_int (i j : Int) : decide (V.int i = V.int j) = decide (i = j) := by simp
theorem dec_V_str (i j : Str) : decide (V.str i = V.str j) = decide (i = j) := by simp
theorem dec_V_bl (i j : Bool) : decide (V.bl i = V.bl j) = decide (i = j) := by simp
theorem eqD_of {K : FW} {Q' : Bool → Prop} (sm : Sim K G dh hid H) (rv : RD K G v d) (ru : RD K G u e) (h : eqD d e dh Q') :
    (scal v u = true ∧ Q' (decide (v = u))) ∨ ((∃ p q, Dp K H v p ∧ Dp K H u q ∧ SeqAt.shaped p = true ∧ SeqAt.shaped q = true ∧ Q' (PyData.eqv p q)) ∨ ∃ a b vs us, v = .ref a ∧ u = .ref b ∧ RdX K K.w H a vs ∧ RdX K K.w H b us ∧ (vs = [] ∨ us = []) ∧ Q' (vs.length == us.length)) := by
  unfold eqD at h
  split at h
  · cases rv; cases ru; exact .inl ⟨rfl, by rw [dec_V_int]; exact h⟩
  · cases rv; cases ru; exact .inl ⟨rfl, by rw [dec_V_str]; exact h⟩
  · cases rv; cases ru; exact .inl ⟨rfl, by rw [dec_V_bl]; exact h⟩
  · split at h
    · rename_i p q e1 e2
      exact .inr (.inl ⟨p, q, topP_dp sm rv e1, topP_dp sm ru e2, h⟩)
    · unfold eqDic at h
      split at h
      · rename_i a b e1 e2
        obtain ⟨p, rfl, h1⟩ := dv_of sm rv e1
        obtain ⟨q, rfl, h2⟩ := dv_of sm ru e2
        rcases h1 with ⟨_, _, z, _⟩ | ⟨_, vs, z, g1, r1⟩
        · cases z
        · rcases h2 with ⟨_, _, z2, _⟩ | ⟨_, us, z2, g2, r2⟩
          · cases z2
          · cases z; cases z2
            have l1 : vs.length = a.length := by
              have := congrArg List.length r1.split.1
              simpa using this
            have l2 : us.length = b.length := by
              have := congrArg List.length r2.split.1
              simpa using this
            refine .inr (.inr ⟨p, q, vs, us, rfl, rfl, g1, g2, h.1.imp (fun z => ?_) (fun z => ?_), by rw [l1, l2]; exact h.2⟩)
            · exact List.eq_nil_of_length_eq_zero (by rw [l1, z]; rfl)
            · exact List.eq_nil_of_length_eq_zero (by rw [l2, z]; rfl)
      · exact h.elim
theorem flatV_of {K : FW} (r : RD K G v d) (h : flatD d = true) : flatV v = true ∧ v = flatVD d := by
  cases r <;> first
    | exact ⟨rfl, rfl⟩
    | cases h
theorem flatVs_of {K : FW} {vs : List V} : ∀ {ds : List D}, RDs K G vs ds → ds.all flatD = true → vs.all flatV = true ∧ vs = ds.map flatVD := by
  intro ds r h
  induction ds generalizing vs with
  | nil => cases r; exact ⟨rfl, rfl⟩
  | cons d ds ih =>
    cases r with
    | cons r1 r2 =>
      simp only [List.all_cons, Bool.and_eq_true] at h
      obtain ⟨a, b⟩ := ih r2 h.2
      obtain ⟨c, f⟩ := flatV_of r1 h.1
      exact ⟨by simp only [List.all_cons, c, a, Bool.and_self], by rw [List.map_cons, ← f, ← b]⟩
def rInS : R2 := fun x y H Q => ∃ i j, x = .str i ∧ y = .str j ∧ Q (.bl (!(Builtin.Str.occurrences j i 0 j.length 1).isEmpty)) H
def rNotInS : R2 := fun x y H Q => ∃ i j, x = .str i ∧ y = .str j ∧ Q (.bl (!(!(Builtin.Str.occurrences j i 0 j.length 1).isEmpty))) H
def rCp (K : FW) : Cp → R2
  | .eq => rEqAll K
  | .ne => rNeAll K
  | .lt => rI0 fun i j => .bl (decide (i < j))
  | .le => rI0 fun i j => .bl (decide (i ≤ j))
  | .gt => rI0 fun i j => .bl (decide (j < i))
  | .ge => rI0 fun i j => .bl (decide (j ≤ i))
  | .isN => fun x y H Q => y = .non ∧ Q (.bl (decide (x = .non))) H
  | .notN => fun x y H Q => y = .non ∧ Q (.bl (!decide (x = .non))) H
  | .inn => fun x y H Q => rIn K false x y H Q ∨ (rInS x y H Q ∨ rInD K false x y H Q)
  | .notin => fun x y H Q => rIn K true x y H Q ∨ (rNotInS x y H Q ∨ rInD K true x y H Q)
def cpS : Cp → CmpOp
  | .eq => .Eq
  | .ne => .NotEq
  | .lt => .Lt
  | .le => .LtE
  | .gt => .Gt
  | .ge => .GtE
  | .isN => .Is
  | .notN => .IsNot
  | .inn => .In
  | .notin => .NotIn
theorem cp_ok {X : Cx} (hu : X.A.units + 200 < cLine) : ∀ c : Cp, OpR X (compareOp (cpS c)) (rCp (xw X) c)
  | .eq => op_eq.or ((op_eqD (by omega)).or (op_eqX hu))
  | .ne => op_ne.or ((op_neD (by omega)).or (op_neX hu))
  | .lt => op_lt
  | .le => op_le
  | .gt => op_gt
  | .ge => op_ge
  | .isN => op_isN
  | .notN => op_notN
  | .inn => op_in_seq.or (op_in_str.or (op_inD hu))
  | .notin => op_notIn_seq.or (op_notIn_str.or (op_notInD hu))
theorem isNon_of {K : FW} (r : RD K G v d) : decide (v = .non) = isNonD d := by
  cases r <;> simp [isNonD]
theorem sim_cp (c : Cp) : SimR2 S (rCp S.K c) fun x y h Q => cmpD c x y h fun r => Q (.bl r) h := by
  intro G hid dh H Q Q' v u d e sm rv ru h k
  have fin : ∀ b, Q' (.bl b) dh → Q (.bl b) H := fun b q => k.same sm (.bl b) q
  cases c with
  | eq =>
    rcases eqD_of (Q' := fun r => Q' (.bl r) dh) sm rv ru h with ⟨h1, h2⟩ | ⟨p, q, h1, h2, h3, h4, h5⟩ | ⟨a, b, vs, us, h1, h2, h3, h4, h5, h6⟩
    · exact .inl ⟨h1, fin _ h2⟩
    · exact .inr (.inl ⟨p, q, h1, h2, h3, h4, fin _ h5⟩)
    · exact .inr (.inr ⟨a, b, vs, us, h1, h2, h3, h4, h5, fin _ h6⟩)
  | ne =>
    rcases eqD_of (Q' := fun r => Q' (.bl (!r)) dh) sm rv ru h with ⟨h1, h2⟩ | ⟨p, q, h1, h2, h3, h4, h5⟩ | ⟨a, b, vs, us, h1, h2, h3, h4, h5, h6⟩
    · exact .inl ⟨h1, fin _ h2⟩
    · exact .inr (.inl ⟨p, q, h1, h2, h3, h4, fin _ h5⟩)
    · exact .inr (.inr ⟨a, b, vs, us, h1, h2, h3, h4, h5, fin _ h6⟩)
  | isN =>
    obtain ⟨h1, h2⟩ := h
    cases e with
    | non => cases ru; exact ⟨rfl, fin _ (by rw [isNon_of rv]; exact h2)⟩
    | _ => exact absurd h1 Bool.false_ne_true
  | notN =>
    obtain ⟨h1, h2⟩ := h
    cases e with
    | non => cases ru; exact ⟨rfl, fin _ (by rw [isNon_of rv]; exact h2)⟩
    | _ => exact absurd h1 Bool.false_ne_true
  | inn =>
    simp only [cmpD] at h
    split at h
    · rename_i ys e1
      obtain ⟨a, xs, rfl, h1, r1⟩ := asS_of sm ru e1
      obtain ⟨h2, h3, h4⟩ := h
      obtain ⟨a1, a2⟩ := flatV_of rv h2
      obtain ⟨b1, b2⟩ := flatVs_of r1 h3
      refine .inl ⟨a, xs, rfl, h1, a1, b1, fin _ ?_⟩
      rw [a2, b2]
      exact h4
    · split at h
      · cases rv; cases ru; exact .inr (.inl ⟨_, _, rfl, rfl, fin _ h⟩)
      · obtain ⟨a, o, rfl, g, q⟩ := dinD_of sm rv ru h
        exact .inr (.inr ⟨a, o, rfl, g, fin _ q⟩)
  | notin =>
    simp only [cmpD] at h
    split at h
    · rename_i ys e1
      obtain ⟨a, xs, rfl, h1, r1⟩ := asS_of sm ru e1
      obtain ⟨h2, h3, h4⟩ := h
      obtain ⟨a1, a2⟩ := flatV_of rv h2
      obtain ⟨b1, b2⟩ := flatVs_of r1 h3
      refine .inl ⟨a, xs, rfl, h1, a1, b1, fin _ ?_⟩
      rw [a2, b2]
      exact h4
    · split at h
      · cases rv; cases ru; exact .inr (.inl ⟨_, _, rfl, rfl, fin _ h⟩)
      · obtain ⟨a, o, rfl, g, q⟩ := dinD_of sm rv ru h
        exact .inr (.inr ⟨a, o, rfl, g, fin _ q⟩)
  | lt =>
    simp only [cmpD] at h
    split at h
    · cases rv; cases ru; exact ⟨_, _, rfl, rfl, fin _ h⟩
    · exact h.elim
  | le =>
    simp only [cmpD] at h
    split at h
    · cases rv; cases ru; exact ⟨_, _, rfl, rfl, fin _ h⟩
    · exact h.elim
  | gt =>
    simp only [cmpD] at h
    split at h
    · cases rv; cases ru; exact ⟨_, _, rfl, rfl, fin _ h⟩
    · exact h.elim
  | ge =>
    simp only [cmpD] at h
    split at h
    · cases rv; cases ru; exact ⟨_, _, rfl, rfl, fin _ h⟩
    · exact h.elim
end
end Deep

/-! Dp4: places, pieces, calls of built-ins, methods, by values. -/
namespace Deep
open PySem L2 PyProof.Rows
section
variable {S : Sx} {G G' : Gho} {dh : DH} {hid H : Hp} {v u : V} {d e : D}

/-! ### places -/
theorem atI_of {K : FW} {xs : List V} {ds : List D} {i : Int} {d : D} (r : RDs K G xs ds) (h : atI ds i = some d) : ∃ v, atI xs i = some v ∧ RD K G v d := by
  unfold atI at h ⊢
  rw [r.length]
  cases q : ixN ds.length i with
  | none => rw [q] at h; cases h
  | some j =>
    rw [q] at h
    exact r.get (i := j) h
def rIxAll (K : FW) : R2 := fun x y H Q => rIx K x y H Q ∨ rIxD K x y H Q
theorem sim_ix : SimR2 S (rIxAll S.K) ixD := by
  intro G hid dh H Q Q' v u d e sm rv ru h k
  unfold ixD at h
  split at h
  · rename_i a i
    cases rv with
    | box g =>
      cases ru
      obtain ⟨c, s, e1, b⟩ := sm.g a _ g
      rcases h with ⟨rfl, q⟩ | ⟨rfl, q⟩
      · exact .inl (.inl ⟨_, _, _, _, rfl, rfl, SqL.of e1, rfl, k.same sm (.int c) (q c b.1)⟩)
      · exact .inl (.inl ⟨_, _, _, _, rfl, rfl, SqL.of e1, rfl, k.same sm (.int s) (q s b.2.1 b.2.2)⟩)
  · cases rv; cases ru
    obtain ⟨z, h⟩ := h
    split at h
    · rename_i c e1
      exact .inl (.inr (.inr ⟨_, _, c, rfl, rfl, z, e1, k.same sm (.str _) h⟩))
    · exact h.elim
  · have ru' := ru
    cases ru
    split at h
    · rename_i xs e1
      split at h
      · rename_i w e2
        obtain ⟨a, vs, rfl, hs, rs⟩ := asS_of sm rv e1
        obtain ⟨x, e3, rx⟩ := atI_of rs e2
        have q := k.same sm rx h
        rcases hs with hs | hs
        · exact .inl (.inl ⟨a, vs, _, x, rfl, rfl, hs, e3, q⟩)
        · exact .inl (.inr (.inl ⟨a, vs, _, x, rfl, rfl, hs, e3, q⟩))
      · exact h.elim
    · exact .inr (dgetD_of sm rv ru' h k)
  · exact .inr (dgetD_of sm rv ru h k)
def rSet (K : FW) : V → V → V → Hp → (Hp → Prop) → Prop := fun o i v H Q => rSetL o i v H Q ∨ rSetD K o i v H Q
theorem set_ok {X : Cx} (hu : X.A.units + 200 < cLine) : PSet X (rSet (xw X)) := by
  intro pins s σ H o i v ov iv u Q I ro ri rv h
  rcases h with h | h
  · exact set_list pins s σ H o i v ov iv u Q I ro ri rv h
  · exact set_dict hu pins s σ H o i v ov iv u Q I ro ri rv h
def SimSet (S : Sx) (r : V → V → V → Hp → (Hp → Prop) → Prop) (R : D → D → D → DH → (DH → Prop) → Prop) : Prop := ∀ G hid dh H (Q : Hp → Prop) (Q' : DH → Prop) o i v d e f, Sim S.K G dh hid H → RD S.K G o d → RD S.K G i e → RD S.K G v f → R d e f dh Q' →
  (∀ H' dh', Sim S.K G dh' hid H' → Q' dh' → Q H') → r o i v H Q
theorem sim_set : SimSet S (rSet S.K) setD := by
  intro G hid dh H Q Q' o i v d e f sm ro ri rv h k
  unfold setD at h
  split at h
  · rename_i a j
    cases ri
    split at h
    · cases rv
      obtain ⟨hb, q⟩ := h
      cases ro with
      | box g =>
        obtain ⟨c, s, e1, b⟩ := sm.g a _ g
        rcases hb with ⟨rfl, h1⟩ | ⟨rfl, h1, h2⟩
        · exact .inl ⟨a, _, 0, 0, rfl, rfl, e1, rfl, k _ _ (sm.boxW g ⟨h1, b.2⟩) q⟩
        · exact .inl ⟨a, _, 1, 1, rfl, rfl, e1, rfl, k _ _ (sm.boxW g ⟨b.1, h1, h2⟩) q⟩
    · exact h.elim
  · rename_i j p
    split at h
    · rename_i xs hx
      split at h
      · cases ri
        split at h
        · rename_i m hm
          cases ro
          obtain ⟨_, vs, e1, rs⟩ := sm.d p _ hx
          exact .inl ⟨p, vs, _, m, rfl, rfl, e1, by rw [rs.length]; exact hm, k _ _ (sm.write (k' := .lst (xs.set m f)) hx ⟨_, upd_same, rs.set rv m⟩) h⟩
        · exact h.elim
      · exact h.elim
    · rename_i kvs hx
      split at h
      · rename_i y hy
        cases ro
        obtain ⟨_, vs, e1, rs⟩ := sm.d p _ hx
        have l : vs.length = kvs.length := by
          obtain ⟨e2, l2, _⟩ := rs.split
          rw [List.length_map, List.length_map] at l2
          exact l2.symm
        exact .inr ⟨p, rfl, .inl ⟨vs, y, e1, kKey_of ri hy, by rw [l]; exact h.1, k _ _ (sm.write (k' := .dK (putD kvs y f)) hx ⟨_, upd_same, rs.put y rv⟩) h.2⟩⟩
      · exact h.elim
    · rename_i kvs hx
      split at h
      · rename_i y hy
        cases ro
        obtain ⟨_, vs, e1, t, rs⟩ := sm.d p _ hx
        have l : vs.length = kvs.length := by
          obtain ⟨e2, _, _⟩ := rs.split
          have e3 := congrArg List.length e2
          rw [List.length_map, List.length_map] at e3
          exact e3
        obtain ⟨b, hb, rb⟩ := xKey_of sm ri hy h.1
        exact .inr ⟨p, rfl, .inr ⟨vs, y, b, e1, t.x sm rs, hb, k _ _ (sm.write (k' := .dT (putD kvs y f)) hx ⟨_, upd_same, t.put h.1.1 (by rw [l]; exact h.2.1), rs.put rb rv⟩) h.2.2⟩⟩
      · exact h.elim
    · exact h.elim
  · exact h.elim
def rSl (K : PySem.W.Frag) : V → Option Int → Option Int → Hp → VK → Prop := fun x lo hi H Q => rSlL K x lo hi H Q ∨ rSlA K x lo hi H Q
theorem sl_ok {X : Cx} : SlR X (rSl X.K) := sl_list.or sl_tupA
theorem sim_sl (m : LK) {Q : VK} {Q' : DQ} {lo hi : Option Int} (sm : Sim S.K G dh hid H) (rv : RD S.K G v d) (h : slD m d lo hi dh Q') (k : CQ S G hid Q Q') : rSl S.K v lo hi H Q := by
  unfold slD at h
  split at h
  · obtain ⟨a, xs, rfl, hs, rs⟩ := tup_of sm rv
    have e := rs.length
    refine .inr ⟨a, xs, rfl, hs, fun hw => ?_, fun _ => ?_⟩
    · rw [e] at hw
      rw [hw.1, hw.2, List.drop_zero, Nat.sub_zero, List.take_length] at h
      exact k.same sm rv h
    · refine new_tup sm ?_ h k
      unfold cutV
      rw [e]
      exact (rs.drop _).take _
  · split at h
    · rename_i xs e1
      obtain ⟨a, vs, rfl, hs, rs⟩ := asR_of sm rv e1
      have e := rs.length
      refine .inl ⟨a, vs, rfl, hs, new_lst sm ?_ h k⟩
      unfold cutV
      rw [e]
      exact (rs.drop _).take _
    · exact h.elim

/-! ### calls of built-ins -/
def biS : Bi → Str
  | .len => "len"
  | .abs => "abs"
  | .max2 => "max"
  | .min2 => "min"
  | .max1 => "max"
  | .min1 => "min"
  | .int => "int"
  | .str => "str"
  | .isinst => "isinstance"
  | .lis => "list"
  | .tup => "tuple"
  | .sum => "sum"
  | .any => "any"
  | .all => "all"
  | .sorted => "sorted"
  | .repr => "repr"
  | .dic => "dict"
def biTy : Bi → Option String
  | .int => some "int"
  | .str => some "str"
  | .lis => some "list"
  | .tup => some "tuple"
  | .dic => some "dict"
  | _ => none
def biId : Bi → String
  | .len => "len"
  | .abs => "abs"
  | .max2 => "max"
  | .min2 => "min"
  | .max1 => "max"
  | .min1 => "min"
  | .isinst => "isinstance"
  | .sum => "sum"
  | .any => "any"
  | .all => "all"
  | .sorted => "sorted"
  | .repr => "repr"
  | _ => ""
def biV (b : Bi) : Value := match biTy b with
  | some T => .type T
  | none => .builtin (biId b)
theorem bi_boot : ∀ b : Bi, bootBuiltins (biS b) = some (biV b)
  | .len => by decide +kernel
  | .abs => by decide +kernel
  | .max2 => by decide +kernel
  | .min2 => by decide +kernel
  | .max1 => by decide +kernel
  | .min1 => by decide +kernel
  | .int => by decide +kernel
  | .str => by decide +kernel
  | .isinst => by decide +kernel
  | .lis => by decide +kernel
  | .tup => by decide +kernel
  | .sum => by decide +kernel
  | .any => by decide +kernel
  | .all => by decide +kernel
  | .sorted => by decide +kernel
  | .repr => by decide +kernel
  | .dic => by decide +kernel
def rNever : List V → Hp → VK → Prop := fun _ _ _ => False
def rBi (K : FW) : Bi → List V → Hp → VK → Prop
  | .len => fun xs H Q => rLenD K xs H Q ∨ (∃ p ys, xs = [.ref p] ∧ (SqL K H p ys ∨ SqT K H p ys) ∧ Q (.int ys.length) H) ∨ ∃ z, xs = [.str z] ∧ z.length ≤ sizeLine ∧ Q (.int z.length) H
  | .abs => fun xs H Q => ∃ i, xs = [.int i] ∧ Q (.int (if i < 0 then -i else i)) H
  | .max2 => fun xs H Q => ∃ i j, xs = [.int i, .int j] ∧ Q (.int (if j > i then j else i)) H
  | .min2 => fun xs H Q => ∃ i j, xs = [.int i, .int j] ∧ Q (.int (if j < i then j else i)) H
  | .max1 => fun xs H Q => rMaxT K xs H Q ∨ rMax K xs H Q
  | .min1 => fun xs H Q => rMinT K xs H Q ∨ rMin K xs H Q
  | .int => fun xs H Q => (∃ i, xs = [.int i] ∧ Q (.int i) H) ∨ ∃ k, xs = [.bl k] ∧ Q (.int (if k then 1 else 0)) H
  | .str => fun xs H Q => ∃ i, xs = [.int i] ∧ i.natAbs.log2 < 1920 ∧ Q (.str (toString i)) H
  | .isinst => rIsi K
  | .lis => fun xs H Q => ∃ p ys, xs = [.ref p] ∧ (SqL K H p ys ∨ SqT K H p ys) ∧ ∀ l, H l = none → Q (.ref l) (upd H l (.lst ys))
  | .tup => fun xs H Q => ∃ p ys, xs = [.ref p] ∧ ((SqL K H p ys ∧ ∀ l, H l = none → Q (.ref l) (upd H l (.tup ys))) ∨ (SqT K H p ys ∧ Q (.ref p) H))
  | .sum => fun xs H Q => rSum K xs H Q ∨ rSumT K xs H Q
  | .any => rAny K
  | .all => rAll K
  | .sorted => fun xs H Q => rSortD K xs H Q ∨ rSortX K K.w xs H Q
  | .repr => rRepr K
  | .dic => rCopyX K K.w
theorem bi_ok {X : Cx} (hc : X.calm = true) (hg : X.A.guards = some []) (hu : X.A.units + 200 < cLine) : ∀ b : Bi, CallR X (biV b) (rBi (xw X) b)
  | .len => cr_lenD.or (call_len_seq.or call_len_str)
  | .abs => call_abs
  | .max2 => call_max2 hc
  | .min2 => call_min2 hc
  | .max1 => (cr_maxT hc hu).or (cr_max hc)
  | .min1 => (cr_minT hc hu).or (cr_min hc)
  | .int => call_int1
  | .str => call_str_int
  | .isinst => call_isi
  | .lis => call_list_of
  | .tup => call_tuple_of
  | .sum => (cr_sum hc).or (cr_sumT hc)
  | .any => cr_any hc
  | .all => cr_all hc
  | .sorted => (cr_sortD hu).or (cr_sortX hc hu)
  | .repr => cr_repr hg hu
  | .dic => cr_copyX hu
theorem ints_of {K : FW} : ∀ {ds : List D} {vs : List V} {ns : List Int}, RDs K G vs ds → intsD ds = some ns → vs = ns.map V.int
  | [], _, _, r, e => by cases r; cases e; rfl
  | d :: ds, _, _, r, e => by
    cases r with
    | cons a b =>
      cases d <;> first
        | (cases e; done)
        | skip
      simp only [intsD, Option.map_eq_some_iff] at e
      obtain ⟨ns, e1, rfl⟩ := e
      cases a
      rw [ints_of b e1]
      rfl
theorem bls_of {K : FW} : ∀ {ds : List D} {vs : List V} {ns : List Bool}, RDs K G vs ds → blsD ds = some ns → vs = ns.map V.bl
  | [], _, _, r, e => by cases r; cases e; rfl
  | d :: ds, _, _, r, e => by
    cases r with
    | cons a b =>
      cases d <;> first
        | (cases e; done)
        | skip
      simp only [blsD, Option.map_eq_some_iff] at e
      obtain ⟨ns, e1, rfl⟩ := e
      cases a
      rw [bls_of b e1]
      rfl
theorem ty_of {n : String} (sm : Sim S.K G dh hid H) (r : RD S.K G v d) (h : tyH dh d = some n) : TyX S.K H v (.type n) := by
  cases r with
  | non => cases h; exact .base .non
  | bl b => cases h; exact .base (.bl b)
  | int b => cases h; exact .base (.int b)
  | str b => cases h; exact .base (.str b)
  | tup g r =>
    cases h
    rcases g with g | ⟨o, its, n, h1, h2, _⟩
    · exact .base (.tup (sm.g _ _ g))
    · exact .kTuple h1 h2
  | lst g r => cases h; exact .base (.lst (sm.g _ _ g))
  | dk g l r => cases h
  | dt g l r r' => cases h
  | ref a =>
    simp only [tyH] at h
    split at h
    · rename_i xs hx
      cases h
      obtain ⟨_, vs, e, _⟩ := sm.d a _ hx
      exact .base (.lst e)
    · cases h
  | box g =>
    cases h
    obtain ⟨c, s, e, _⟩ := sm.g _ _ g
    exact .base (.lst e)
  | ty n => cases h
  | scr g =>
    cases h
    rcases g with g | ⟨o, its, n, e, c, _⟩
    · rcases (sm.g _ _ g : Rd H _ _) with e | ⟨o, e⟩
      · exact .base (.lst e)
      · exact .base (.frz e)
    · exact .kList e c
theorem one_of {K : FW} {vs : List V} {d : D} (r : RDs K G vs [d]) : ∃ v, vs = [v] ∧ RD K G v d := by
  cases r with
  | cons a b => cases b; exact ⟨_, rfl, a⟩
theorem two_of {K : FW} {vs : List V} {d e : D} (r : RDs K G vs [d, e]) : ∃ v u, vs = [v, u] ∧ RD K G v d ∧ RD K G u e := by
  cases r with
  | cons a b =>
    obtain ⟨u, rfl, c⟩ := one_of b
    exact ⟨_, u, rfl, a, c⟩
theorem toPs_len : ∀ {ds : List D} {ps : List PyData}, toPs ds = some ps → ds.length = ps.length
  | [], _, e => by cases e; rfl
  | d :: ds, _, e => by
    simp only [toPs] at e
    split at e
    · rename_i y ys e1 e2
      cases e
      rw [List.length_cons, List.length_cons, toPs_len e2]
    · cases e
theorem RDs.of_all {K : FW} {α : Type} {f : α → V} {g : α → D} : ∀ {ts : List α}, (∀ t ∈ ts, RD K G (f t) (g t)) → RDs K G (ts.map f) (ts.map g)
  | [], _ => .nil
  | t :: ts, h => .cons (h t (List.mem_cons_self ..)) (RDs.of_all fun x hx => h x (List.mem_cons_of_mem _ hx))
theorem RDs.zip_all {K : FW} : ∀ {vs : List V} {ds : List D} {ps : List PyData}, RDs K G vs ds → ∀ t ∈ vs.zip (ds.zip ps), RD K G t.1 t.2.1
  | _, _, [], _ => fun t h => by simp at h
  | _, _, _ :: _, .nil => fun t h => by simp at h
  | _, _, p :: ps, .cons a b => fun t h => by
    simp only [List.zip_cons_cons, List.mem_cons] at h
    rcases h with rfl | h
    · exact a
    · exact RDs.zip_all b t h
theorem sort_rel {K : FW} {vs : List V} {ds : List D} {ps : List PyData} (r : RDs K G vs ds) (l : ds.length = ps.length) : RDs K G (sortVP vs ps) (sortDP ds ps) := by
  have l1 := r.length
  let T := vs.zip (ds.zip ps)
  let le := fun t u : V × D × PyData => PySem.W.dataLe false (fun t : V × D × PyData => t.2.2) t u
  have e1 : T.map (fun t => (t.1, t.2.2)) = vs.zip ps := by
    have gen : ∀ (vs : List V) (ds : List D) (ps : List PyData), vs.length = ds.length → ds.length = ps.length → (vs.zip (ds.zip ps)).map (fun t => (t.1, t.2.2)) = vs.zip ps := by
      intro vs
      induction vs with
      | nil => intro ds ps _ _; simp
      | cons v vs ih =>
        intro ds ps a b
        cases ds with
        | nil => cases a
        | cons d ds =>
          cases ps with
          | nil => cases b
          | cons p ps =>
            simp only [List.zip_cons_cons, List.map_cons]
            rw [ih ds ps (by simpa using a) (by simpa using b)]
    exact gen vs ds ps l1 l
  have e2 : T.map (fun t => t.2) = ds.zip ps := List.map_snd_zip (by rw [List.length_zip]; omega)
  have s1 : sortVP vs ps = (T.mergeSort le).map fun t => t.1 := by
    unfold sortVP
    rw [← e1, ← List.map_mergeSort (r := le) (s := PySem.W.dataLe false fun t : V × PyData => t.2) (f := fun t : V × D × PyData => (t.1, t.2.2)) (l := T) (fun _ _ _ _ => rfl), List.map_map]
    rfl
  have s2 : sortDP ds ps = (T.mergeSort le).map fun t => t.2.1 := by
    unfold sortDP
    rw [← e2, ← List.map_mergeSort (r := le) (s := PySem.W.dataLe false fun t : D × PyData => t.2) (f := fun t : V × D × PyData => t.2) (l := T) (fun _ _ _ _ => rfl), List.map_map]
    rfl
  rw [s1, s2]
  refine RDs.of_all fun t ht => ?_
  exact RDs.zip_all r t ((List.mergeSort_perm T le).mem_iff.mp ht)
theorem sim_bi (f : Bi) (m : LK) : SimRC S (rBi S.K f) (biD f m) := by
  intro G hid dh H Q Q' vs es sm rs h k
  unfold biD at h
  split at h
  · obtain ⟨v, rfl, r⟩ := one_of rs
    cases r
    exact .inr (.inr ⟨_, rfl, h.1, k.same sm (.int _) h.2⟩)
  · obtain ⟨v, rfl, r⟩ := one_of rs
    split at h
    · rename_i xs e1
      obtain ⟨a, ys, rfl, hs, r1⟩ := asS_of sm r e1
      exact .inr (.inl ⟨a, ys, rfl, hs, by rw [r1.length]; exact k.same sm (.int _) h⟩)
    · split at h
      · rename_i kvs e2
        obtain ⟨a, rfl, h2⟩ := dv_of sm r e2
        rcases h2 with ⟨kvs, vs, e3, e1, r1⟩ | ⟨kvs, vs, e3, _⟩
        · cases e3
          obtain ⟨_, l2, _⟩ := r1.split
          rw [List.length_map, List.length_map] at l2
          exact .inl ⟨a, rfl, .inl ⟨vs, e1, by rw [← l2]; exact k.same sm (.int _) h⟩⟩
        · cases e3
      · rename_i kvs e2
        obtain ⟨a, rfl, h2⟩ := dv_of sm r e2
        rcases h2 with ⟨kvs, vs, e3, _⟩ | ⟨kvs, vs, e3, e1, r1⟩
        · cases e3
        · cases e3
          obtain ⟨e4, _, _⟩ := r1.split
          have e5 := congrArg List.length e4
          rw [List.length_map, List.length_map] at e5
          exact .inl ⟨a, rfl, .inr ⟨vs, e1, by rw [e5]; exact k.same sm (.int _) h⟩⟩
      · exact h.elim
  · obtain ⟨v, rfl, r⟩ := one_of rs
    cases r
    exact ⟨_, rfl, k.same sm (.int _) h⟩
  · obtain ⟨v, u, rfl, r, r'⟩ := two_of rs
    cases r; cases r'
    exact ⟨_, _, rfl, k.same sm (.int _) h⟩
  · obtain ⟨v, u, rfl, r, r'⟩ := two_of rs
    cases r; cases r'
    exact ⟨_, _, rfl, k.same sm (.int _) h⟩
  · obtain ⟨v, rfl, r⟩ := one_of rs
    split at h
    · rename_i n ns e2
      obtain ⟨a, ys, rfl, hs, r1⟩ := tup_of sm r
      have e3 := ints_of r1 e2
      subst e3
      exact .inl ⟨a, n, ns, rfl, hs, k.same sm (.int _) h⟩
    · exact h.elim
  · obtain ⟨v, rfl, r⟩ := one_of rs
    split at h
    · rename_i n ns e2
      obtain ⟨a, ys, rfl, hs, r1⟩ := tup_of sm r
      have e3 := ints_of r1 e2
      subst e3
      exact .inl ⟨a, n, ns, rfl, hs, k.same sm (.int _) h⟩
    · exact h.elim
  · obtain ⟨v, rfl, r⟩ := one_of rs
    split at h
    · rename_i xs e1
      split at h
      · rename_i ns e2
        obtain ⟨a, ys, rfl, hs, r1⟩ := asL_of sm r e1
        have e3 := ints_of r1 e2
        subst e3
        exact .inr ⟨a, ns, rfl, SqL.of hs, h.1, fun m h1 h2 => k.same sm (.int _) (h.2 m h1 h2)⟩
      · exact h.elim
    · exact h.elim
  · obtain ⟨v, rfl, r⟩ := one_of rs
    split at h
    · rename_i xs e1
      split at h
      · rename_i ns e2
        obtain ⟨a, ys, rfl, hs, r1⟩ := asL_of sm r e1
        have e3 := ints_of r1 e2
        subst e3
        exact .inr ⟨a, ns, rfl, SqL.of hs, h.1, fun m h1 h2 => k.same sm (.int _) (h.2 m h1 h2)⟩
      · exact h.elim
    · exact h.elim
  · obtain ⟨v, rfl, r⟩ := one_of rs
    cases r
    exact .inl ⟨_, rfl, k.same sm (.int _) h⟩
  · obtain ⟨v, rfl, r⟩ := one_of rs
    cases r
    exact .inr ⟨_, rfl, k.same sm (.int _) h⟩
  · obtain ⟨v, rfl, r⟩ := one_of rs
    cases r
    exact ⟨_, rfl, h.1, k.same sm (.str _) h.2⟩
  · obtain ⟨v, u, rfl, r, r'⟩ := two_of rs
    cases r'
    split at h
    · rename_i b e1
      unfold kitQ at e1
      split at e1
      · rename_i t e2
        exact ⟨_, _, _, _, b, rfl, .ty _, ty_of sm r e2, kit_ty e1, k.same sm (.bl _) h⟩
      · cases e1
    · exact h.elim
  · obtain ⟨v, rfl, r⟩ := one_of rs
    split at h
    · rename_i xs e1
      obtain ⟨a, ys, rfl, hs, r1⟩ := asS_of sm r e1
      exact ⟨a, ys, rfl, hs, new_lst sm r1 h k⟩
    · exact h.elim
  · obtain ⟨v, rfl, r⟩ := one_of rs
    obtain ⟨a, xs, rfl, hs, r1⟩ := tup_of sm r
    exact ⟨a, xs, rfl, .inr ⟨hs, k.same sm r h⟩⟩
  · obtain ⟨v, rfl, r⟩ := one_of rs
    split at h
    · rename_i xs e1
      obtain ⟨a, ys, rfl, hs, r1⟩ := asL_of sm r e1
      exact ⟨a, ys, rfl, .inl ⟨SqL.of hs, new_tup sm r1 h k⟩⟩
    · exact h.elim
  · obtain ⟨v, rfl, r⟩ := one_of rs
    split at h
    · rename_i xs e1
      split at h
      · rename_i ns e2
        obtain ⟨a, ys, rfl, hs, r1⟩ := asS_of sm r e1
        have e3 := ints_of r1 e2
        subst e3
        rcases hs with hs | hs
        · exact .inl ⟨a, ns, rfl, hs, k.same sm (.int _) h⟩
        · exact .inr ⟨a, ns, rfl, hs, k.same sm (.int _) h⟩
      · exact h.elim
    · exact h.elim
  · obtain ⟨v, rfl, r⟩ := one_of rs
    split at h
    · rename_i xs e1
      split at h
      · rename_i ns e2
        obtain ⟨a, ys, rfl, hs, r1⟩ := asL_of sm r e1
        have e3 := bls_of r1 e2
        subst e3
        exact ⟨a, ns, rfl, SqL.of hs, k.same sm (.bl _) h⟩
      · exact h.elim
    · exact h.elim
  · obtain ⟨v, rfl, r⟩ := one_of rs
    split at h
    · rename_i xs e1
      split at h
      · rename_i ns e2
        obtain ⟨a, ys, rfl, hs, r1⟩ := asL_of sm r e1
        have e3 := bls_of r1 e2
        subst e3
        exact ⟨a, ns, rfl, SqL.of hs, k.same sm (.bl _) h⟩
      · exact h.elim
    · exact h.elim
  · obtain ⟨v, rfl, r⟩ := one_of rs
    split at h
    · rename_i xs e1
      split at h
      · rename_i ps e2
        obtain ⟨a, ys, rfl, hs, r1⟩ := asL_of sm r e1
        exact .inl ⟨a, ys, ps, rfl, SqL.of hs, toPs_dp sm xs r1 e2, h.1, new_lst sm (sort_rel r1 (toPs_len e2)) h.2 k⟩
      · exact h.elim
    · split at h
      · rename_i kvs e1
        obtain ⟨a, rfl, h2⟩ := dv_of sm r e1
        rcases h2 with ⟨_, _, z, _⟩ | ⟨_, vs, z, g, r1⟩
        · cases z
        · cases z
          obtain ⟨ek, r2, _⟩ := r1.split
          have hh : (vs.map fun x => x.1.data) = kvs.map fun x => x.1.data := by
            have := congrArg (List.map fun k : NKey => k.data) ek
            rw [List.map_map, List.map_map] at this
            exact this
          refine .inr ⟨a, vs, rfl, g, by rw [hh]; exact h.1, ?_⟩
          rw [hh]
          exact new_lst sm (sort_rel r2 (by rw [List.length_map, List.length_map])) h.2 k
      · exact h.elim
  · obtain ⟨v, rfl, r⟩ := one_of rs
    split at h
    · rename_i kvs e1
      obtain ⟨a, rfl, h2⟩ := dv_of sm r e1
      rcases h2 with ⟨_, _, z, _⟩ | ⟨_, vs, z, g, r1⟩
      · cases z
      · cases z
        obtain ⟨h3, h4, h5⟩ := h
        have ek := r1.split.1
        have hh : (vs.map fun x => x.1.hash S.K.w) = kvs.map fun x => x.1.hash S.K.w := by
          have := congrArg (List.map fun k : NKey => k.hash S.K.w) ek
          rw [List.map_map, List.map_map] at this
          exact this
        refine ⟨a, vs, rfl, g, by rw [hh]; exact h3 S.K.w, fun x hx => ?_, fun p hp hs => ?_⟩
        · have : x.1 ∈ kvs.map (·.1) := by rw [← ek]; exact List.mem_map_of_mem hx
          obtain ⟨y, hy, e⟩ := List.mem_map.mp this
          rw [← e]
          exact h4 y hy
        · exact k G _ _ _ _ (GE.refl G) (sm.newD (k := .dT kvs) hp ⟨vs, upd_same, ⟨g.2.z, hs, g.2.nd, fun x hx => (g.2.ks x hx).2⟩, r1⟩) (.ref p) (h5 p (sm.dnone hp))
    · exact h.elim
  · obtain ⟨v, rfl, r⟩ := one_of rs
    split at h
    · rename_i p e1
      exact ⟨v, p, rfl, topP_dp sm r e1, h.1, k.same sm (.str _) h.2⟩
    · exact h.elim
  · exact h.elim

/-! ### methods of texts -/
theorem strs_of {K : FW} : ∀ {ds : List D} {vs : List V} {ns : List Str}, RDs K G vs ds → strsD ds = some ns → vs = ns.map V.str
  | [], _, _, r, e => by cases r; cases e; rfl
  | d :: ds, _, _, r, e => by
    cases r with
    | cons a b =>
      cases d <;> first
        | (cases e; done)
        | skip
      simp only [strsD, Option.map_eq_some_iff] at e
      obtain ⟨ns, e1, rfl⟩ := e
      cases a
      rw [strs_of b e1]
      rfl
theorem RDs.of_strs {K : FW} : ∀ (ns : List Str), RDs K G (ns.map V.str) (ns.map D.str)
  | [] => .nil
  | n :: ns => .cons (.str n) (RDs.of_strs ns)
def tmS : Tm → Str
  | .join => "join"
  | .part => "partition"
  | .split => "split"
def rTm (K : PySem.W.Frag) : Tm → V → List V → Hp → VK → Prop
  | .join => fun x xs H Q => ∃ a p, ∃ ys : List Str, x = .str a ∧ xs = [.ref p] ∧ (SqL K H p (ys.map V.str) ∨ SqT K H p (ys.map V.str)) ∧ (ys.map (·.length)).sum + ys.length * a.length ≤ 16777216 ∧ Q (.str (Txt.join a ys)) H
  | .part => fun x xs H Q => ∃ a b, x = .str a ∧ xs = [.str b] ∧ (b.length == 0) = false ∧ a.length ≤ sizeLine ∧ ∀ p, H p = none → Q (.ref p) (upd H p (.tup [.str (Txt.partition a b).1, .str (Txt.partition a b).2.1, .str (Txt.partition a b).2.2]))
  | .split => fun x xs H Q => ∃ a b, x = .str a ∧ xs = [.str b] ∧ (b.length == 0) = false ∧ a.length + 2 ≤ sizeLine ∧ rNewStrs (Txt.split a b) H Q
theorem sim_tm (f : Tm) (m : LK) {Q : VK} {Q' : DQ} (sm : Sim S.K G dh hid H) (rv : RD S.K G v d) (ru : RD S.K G u e) (h : tmD f m d e dh Q') (k : CQ S G hid Q Q') : rTm S.K f v [u] H Q := by
  unfold tmD at h
  split at h
  · split at h
    · rename_i ds e1
      split at h
      · rename_i ys e2
        obtain ⟨a, xs, rfl, hs, rs⟩ := asS_of sm ru e1
        have e3 := strs_of rs e2
        subst e3
        cases rv
        exact ⟨_, a, ys, rfl, rfl, hs, h.1, k.same sm (.str _) h.2⟩
      · exact h.elim
    · exact h.elim
  · cases rv; cases ru
    exact ⟨_, _, rfl, rfl, h.1, h.2.1, new_tup sm (.cons (.str _) (.cons (.str _) (.cons (.str _) .nil))) h.2.2 k⟩
  · cases rv; cases ru
    exact ⟨_, _, rfl, rfl, h.1, h.2.1, new_lst sm (RDs.of_strs _) h.2.2 k⟩
  · exact h.elim

/-! ### methods of lists -/
def mtS : Mt → Str
  | .append => "append"
  | .extend => "extend"
  | .pop0 => "pop"
  | .pop1 => "pop"
  | .clear => "clear"
def rMt : Mt → V → List V → Hp → VK → Prop
  | .append => rAppend
  | .extend => rExtend
  | .pop0 => rPop
  | .pop1 => rPopAt
  | .clear => rClear
theorem lstAt_ty (sm : Sim S.K G dh hid H) (r : RD S.K G v d) (h : lstAt dh d) : tyV S.K "list" v H := by
  cases r <;> first
    | exact h.elim
    | skip
  simp only [lstAt] at h
  split at h
  · rename_i xs hx
    obtain ⟨_, vs, e, _⟩ := sm.d _ _ hx
    exact .inl ⟨rfl, _, SqL.of e⟩
  · exact h.elim
theorem sim_mt (f : Mt) : SimRM S (rMt f) (mtD f) := by
  intro G hid dh H Q Q' v d vs es sm rv rs h k
  unfold mtD at h
  split at h
  · rename_i p
    split at h
    · rename_i xs hx
      cases rv
      obtain ⟨_, ws, e1, r1⟩ := sm.d p _ hx
      split at h
      · rename_i y
        obtain ⟨u, rfl, r⟩ := one_of rs
        refine ⟨p, ws, u, rfl, rfl, e1, by rw [r1.length]; exact h.1, ?_⟩
        exact k.same (sm.write (k' := .lst (xs ++ [y])) hx ⟨_, upd_same, r1.append (.cons r .nil)⟩) .non h.2
      · rename_i y
        obtain ⟨u, rfl, r⟩ := one_of rs
        split at h
        · rename_i zs e2
          obtain ⟨a, us, rfl, e3, r2⟩ := asL_of sm r e2
          refine ⟨p, a, ws, us, rfl, rfl, e1, e3, by rw [r1.length, r2.length]; exact h.1, ?_⟩
          exact k.same (sm.write (k' := .lst (xs ++ zs)) hx ⟨_, upd_same, r1.append r2⟩) .non h.2
        · exact h.elim
      · cases rs
        split at h
        · rename_i y e2
          obtain ⟨u, e3, r2⟩ := r1.get e2
          refine ⟨p, ws, u, rfl, rfl, e1, by rw [r1.length]; exact e3, ?_⟩
          refine k.same (sm.write (k' := .lst xs.dropLast) hx ⟨_, upd_same, ?_⟩) r2 h
          rw [List.dropLast_eq_take, List.dropLast_eq_take, r1.length]
          exact r1.take _
        · exact h.elim
      · obtain ⟨u, rfl, r⟩ := one_of rs
        cases r
        split at h
        · rename_i j ej
          split at h
          · rename_i y e2
            obtain ⟨w, e3, r2⟩ := r1.get e2
            refine ⟨p, ws, _, j, w, rfl, rfl, e1, h.1.1, h.1.2, by rw [r1.length]; exact ej, e3, ?_⟩
            exact k.same (sm.write (k' := .lst (xs.eraseIdx j)) hx ⟨_, upd_same, r1.eraseIdx j⟩) r2 h.2
          · exact h.elim
        · exact h.elim
      · cases rs
        exact ⟨p, ws, rfl, rfl, e1, k.same (sm.write (k' := .lst []) hx ⟨_, upd_same, .nil⟩) .non h⟩
      · exact h.elim
    · exact h.elim
  · exact h.elim
end
end Deep

/-! Dp5: each form of the code follows the rules. -/
namespace Deep
open PySem L2 PyProof.Rows
abbrev sx (ct : List (String × Addr)) (X : Cx) : Sx := ⟨xw X, ct⟩
def JE (ct : List (String × Addr)) (W : WX) (X : Cx) (e : Expr) (T : DE) : Prop := ∃ t, PE X e t ∧ SimE (sx ct X) W t T
def JT (ct : List (String × Addr)) (W : WX) (X : Cx) (e : Expr) (T : DE) : Prop := ∃ t, PT X e t ∧ SimT (sx ct X) W t fun σ h Q E => T σ h (fun x h1 => bD x fun r => Q r h1) E
def JW (ct : List (String × Addr)) (W : WX) (X : Cx) (e : Expr) (T : DE) : Prop := ∃ t, PW X e t ∧ SimT (sx ct X) W t fun σ h Q E => T σ h (fun x h1 => bD x fun r => Q r h1) E
def JA (ct : List (String × Addr)) (W : WX) (X : Cx) (es : List Expr) (T : DA) : Prop := ∃ t, PA X es t ∧ SimA (sx ct X) W t T
section
variable {ct : List (String × Addr)} {W : WX} {X : Cx} {S : Sx} {a b c : Expr} {es : List Expr} {A B C : DE} {pos : Pos} {ta tb tc : TE}
theorem bD_of {K : FW} {G : Gho} {v : V} {d : D} {Q : Bool → Prop} (r : RD K G v d) (h : bD d Q) : ∃ k, v = .bl k ∧ d = .bl k ∧ Q k := by
  cases r <;> first
    | exact h.elim
    | exact ⟨_, rfl, rfl, h⟩
theorem simE_var {i : Nat} : SimE S W (tVar i) fun σ h Q _ => match σ[i]? with
    | some (some d) => Q d h
    | _ => False := by
  intro G hid σ ds dh H Q Q' E' rs sm ce h k
  split at h
  · rename_i d e
    obtain ⟨v, e', r⟩ := rs.2 i d e
    exact ⟨v, e', k.same sm r h⟩
  · exact h.elim
theorem simE_c {v : V} {d : D} (r : ∀ G, RD S.K G v d) : SimE S W (tC v) fun _ h Q _ => Q d h := fun G hid σ ds dh H Q Q' E' rs sm ce h k => k.same sm (r G) h
theorem simE_bin {r : R2} {R : D → D → DH → DQ → Prop} (hr : SimR2 S r R) (ha : SimE S W ta A) (hb : SimE S W tb B) : SimE S W (tOp r ta tb) fun σ h Q E => A σ h (fun x h1 => B σ h1 (fun y h2 => R x y h2 Q) E) E := by
  intro G hid σ ds dh H Q Q' E' rs sm ce h k
  refine ha G hid σ ds dh H _ _ E' rs sm ce h fun G1 H1 v d dh1 e1 s1 r1 h1 => ?_
  refine hb G1 hid σ ds dh1 H1 _ _ E' (rs.mono e1) s1 (ce.mono e1) h1 fun G2 H2 u e dh2 e2 s2 r2 h2 => ?_
  exact hr G2 hid dh2 H2 Q Q' v u d e s2 (RD.mono e2 _ r1) r2 h2 (k.mono (e1.trans e2))
theorem simE_un {r : V → Hp → VK → Prop} {R : D → DH → DQ → Prop} (hr : SimR1 S r R) (ha : SimE S W ta A) : SimE S W (tUn r ta) fun σ h Q E => A σ h (fun x h1 => R x h1 Q) E := by
  intro G hid σ ds dh H Q Q' E' rs sm ce h k
  refine ha G hid σ ds dh H _ _ E' rs sm ce h fun G1 H1 v d dh1 e1 s1 r1 h1 => ?_
  exact hr G1 hid dh1 H1 Q Q' v d s1 r1 h1 (k.mono e1)
theorem simT_val {t : TE} {T : DE} (h : SimE S W t T) : SimT S W (tB t) fun σ h Q E => T σ h (fun x h1 => bD x fun r => Q r h1) E := by
  intro G hid σ ds dh H Q Q' E' rs sm ce q k
  refine h G hid σ ds dh H _ _ E' rs sm ce q fun G1 H1 v d dh1 e1 s1 r1 h1 => ?_
  obtain ⟨b, rfl, rfl, h1⟩ := bD_of r1 h1
  exact ⟨b, rfl, k G1 H1 b dh1 e1 s1 h1⟩
theorem simA_nil : SimA S W tNil fun _ h Q _ => Q [] h := fun G hid σ ds dh H Q Q' E' rs sm ce h k => k G H [] [] dh (GE.refl G) sm .nil h
theorem simA_cons {t : TA} {T : DA} (ha : SimE S W ta A) (ht : SimA S W t T) : SimA S W (tCons ta t) fun σ h Q E => A σ h (fun x h1 => T σ h1 (fun xs h2 => Q (x :: xs) h2) E) E := by
  intro G hid σ ds dh H Q Q' E' rs sm ce h k
  refine ha G hid σ ds dh H _ _ E' rs sm ce h fun G1 H1 v d dh1 e1 s1 r1 h1 => ?_
  refine ht G1 hid σ ds dh1 H1 _ _ E' (rs.mono e1) s1 (ce.mono e1) h1 fun G2 H2 vs es dh2 e2 s2 r2 h2 => ?_
  exact k G2 H2 _ _ dh2 (e1.trans e2) s2 (.cons (RD.mono e2 _ r1) r2) h2
theorem simE_args {r : List V → Hp → VK → Prop} {R : List D → DH → DQ → Prop} {t : TA} {T : DA} (hr : SimRC S r R) (ht : SimA S W t T) : SimE S W (tCB r t) fun σ h Q E => T σ h (fun ds h1 => R ds h1 Q) E := by
  intro G hid σ ds dh H Q Q' E' rs sm ce h k
  refine ht G hid σ ds dh H _ _ E' rs sm ce h fun G1 H1 vs es dh1 e1 s1 r1 h1 => ?_
  exact hr G1 hid dh1 H1 Q Q' vs es s1 r1 h1 (k.mono e1)
theorem simE_tup {t : TA} {T : DA} (ht : SimA S W t T) : SimE S W (tTup t) fun σ h Q E => T σ h (fun ds h1 => ds.length ≤ sizeLine ∧ Q (.tup ds) h1) E := by
  intro G hid σ ds dh H Q Q' E' rs sm ce h k
  refine ht G hid σ ds dh H _ _ E' rs sm ce h fun G1 H1 vs es dh1 e1 s1 r1 h1 => ?_
  exact ⟨by rw [r1.length]; exact h1.1, new_tup s1 r1 h1.2 (k.mono e1)⟩
theorem simE_lst {t : TA} {T : DA} {m : LK} (ht : SimA S W t T) : SimE S W (tLst t) fun σ h Q E => T σ h (fun ds h1 => ds.length ≤ sizeLine ∧ newL m ds h1 Q) E := by
  intro G hid σ ds dh H Q Q' E' rs sm ce h k
  refine ht G hid σ ds dh H _ _ E' rs sm ce h fun G1 H1 vs es dh1 e1 s1 r1 h1 => ?_
  exact ⟨by rw [r1.length]; exact h1.1, new_lst s1 r1 h1.2 (k.mono e1)⟩
theorem simE_and (ha : SimE S W ta A) (hb : SimE S W tb B) : SimE S W (tAndV ta tb) fun σ h Q E => A σ h (fun x h1 => bD x fun r => if r = true then B σ h1 Q E else Q (.bl false) h1) E := by
  intro G hid σ ds dh H Q Q' E' rs sm ce h k
  refine ha G hid σ ds dh H _ _ E' rs sm ce h fun G1 H1 v d dh1 e1 s1 r1 h1 => ?_
  obtain ⟨c, rfl, rfl, h1⟩ := bD_of r1 h1
  refine ⟨c, rfl, ?_⟩
  cases c with
  | true => exact hb G1 hid σ ds dh1 H1 _ _ E' (rs.mono e1) s1 (ce.mono e1) h1 (k.mono e1)
  | false => exact k G1 H1 _ _ dh1 e1 s1 (.bl false) h1
theorem simE_or (ha : SimE S W ta A) (hb : SimE S W tb B) : SimE S W (tOrV ta tb) fun σ h Q E => A σ h (fun x h1 => bD x fun r => if r = true then Q (.bl true) h1 else B σ h1 Q E) E := by
  intro G hid σ ds dh H Q Q' E' rs sm ce h k
  refine ha G hid σ ds dh H _ _ E' rs sm ce h fun G1 H1 v d dh1 e1 s1 r1 h1 => ?_
  obtain ⟨c, rfl, rfl, h1⟩ := bD_of r1 h1
  refine ⟨c, rfl, ?_⟩
  cases c with
  | false => exact hb G1 hid σ ds dh1 H1 _ _ E' (rs.mono e1) s1 (ce.mono e1) h1 (k.mono e1)
  | true => exact k G1 H1 _ _ dh1 e1 s1 (.bl true) h1
theorem simE_not (ha : SimE S W ta A) : SimE S W (tNotV ta) fun σ h Q E => A σ h (fun x h1 => bD x fun r => Q (.bl (!r)) h1) E := by
  intro G hid σ ds dh H Q Q' E' rs sm ce h k
  refine ha G hid σ ds dh H _ _ E' rs sm ce h fun G1 H1 v d dh1 e1 s1 r1 h1 => ?_
  obtain ⟨c, rfl, rfl, h1⟩ := bD_of r1 h1
  exact ⟨c, rfl, k G1 H1 _ _ dh1 e1 s1 (.bl _) h1⟩
/-- tests, with what they are of -/
def tst (T : DE) : DT := fun σ h Q E => T σ h (fun x h1 => bD x fun r => Q r h1) E
theorem simT_and {t u : TT} (ha : SimT S W t (tst A)) (hb : SimT S W u (tst B)) : SimT S W (tAnd t u) (tst fun σ h Q E => A σ h (fun x h1 => bD x fun r => if r = true then B σ h1 Q E else Q (.bl false) h1) E) := by
  intro G hid σ ds dh H Q Q' E' rs sm ce h k
  refine ha G hid σ ds dh H _ (fun r h1 => if r = true then tst B ds h1 Q' E' else Q' false h1) E' rs sm ce h fun G1 H1 c dh1 e1 s1 h1 => ?_
  cases c with
  | true => exact hb G1 hid σ ds dh1 H1 _ _ E' (rs.mono e1) s1 (ce.mono e1) h1 fun G2 H2 r dh2 e2 => k G2 H2 r dh2 (e1.trans e2)
  | false => exact k G1 H1 _ dh1 e1 s1 h1
theorem simT_or {t u : TT} (ha : SimT S W t (tst A)) (hb : SimT S W u (tst B)) : SimT S W (tOr t u) (tst fun σ h Q E => A σ h (fun x h1 => bD x fun r => if r = true then Q (.bl true) h1 else B σ h1 Q E) E) := by
  intro G hid σ ds dh H Q Q' E' rs sm ce h k
  refine ha G hid σ ds dh H _ (fun r h1 => if r = true then Q' true h1 else tst B ds h1 Q' E') E' rs sm ce h fun G1 H1 c dh1 e1 s1 h1 => ?_
  cases c with
  | false => exact hb G1 hid σ ds dh1 H1 _ _ E' (rs.mono e1) s1 (ce.mono e1) h1 fun G2 H2 r dh2 e2 => k G2 H2 r dh2 (e1.trans e2)
  | true => exact k G1 H1 _ dh1 e1 s1 h1
theorem simT_not {t : TT} (ha : SimT S W t (tst A)) : SimT S W (tNot t) (tst fun σ h Q E => A σ h (fun x h1 => bD x fun r => Q (.bl (!r)) h1) E) := by
  intro G hid σ ds dh H Q Q' E' rs sm ce h k
  exact ha G hid σ ds dh H _ (fun r h1 => Q' (!r) h1) E' rs sm ce h fun G1 H1 c dh1 e1 s1 h1 => k G1 H1 _ dh1 e1 s1 h1
theorem simE_ite {t : TT} (hc : SimT S W t (tst C)) (ha : SimE S W ta A) (hb : SimE S W tb B) : SimE S W (tIf t ta tb) fun σ h Q E => C σ h (fun x h1 => bD x fun r => if r = true then A σ h1 Q E else B σ h1 Q E) E := by
  intro G hid σ ds dh H Q Q' E' rs sm ce h k
  refine hc G hid σ ds dh H _ (fun r h1 => if r = true then A ds h1 Q' E' else B ds h1 Q' E') E' rs sm ce h fun G1 H1 c dh1 e1 s1 h1 => ?_
  cases c with
  | true => exact ha G1 hid σ ds dh1 H1 _ _ E' (rs.mono e1) s1 (ce.mono e1) h1 (k.mono e1)
  | false => exact hb G1 hid σ ds dh1 H1 _ _ E' (rs.mono e1) s1 (ce.mono e1) h1 (k.mono e1)
theorem simE_chn {r r' : R2} {R R' : D → D → DH → (Bool → Prop) → Prop} (hr : SimR2 S r fun x y h Q => R x y h fun k => Q (.bl k) h) (hr' : SimR2 S r' fun x y h Q => R' x y h fun k => Q (.bl k) h) (ha : SimE S W ta A) (hb : SimE S W tb B) (hc : SimE S W tc C) :
    SimE S W (tChain r r' ta tb tc) fun σ h Q E => A σ h (fun x h1 => B σ h1 (fun y h2 => R x y h2 fun k => if k = true then C σ h2 (fun z h3 => R' y z h3 fun k' => Q (.bl k') h3) E else Q (.bl false) h2) E) E := by
  intro G hid σ ds dh H Q Q' E' rs sm ce h k
  refine ha G hid σ ds dh H _ _ E' rs sm ce h fun G1 H1 v d dh1 e1 s1 r1 h1 => ?_
  refine hb G1 hid σ ds dh1 H1 _ _ E' (rs.mono e1) s1 (ce.mono e1) h1 fun G2 H2 u e dh2 e2 s2 r2 h2 => ?_
  have e12 := e1.trans e2
  refine hr G2 hid dh2 H2 _ (fun z h3 => bD z fun k => if k = true then C ds h3 (fun z h3 => R' e z h3 fun k' => Q' (.bl k') h3) E' else Q' (.bl false) h3) v u d e s2 (RD.mono e2 _ r1) r2 h2 fun G3 H3 w f dh3 e3 s3 r3 h3 => ?_
  obtain ⟨b, rfl, rfl, h3⟩ := bD_of r3 h3
  refine ⟨b, rfl, ?_⟩
  have e13 := e12.trans e3
  cases b with
  | true =>
    refine hc G3 hid σ ds dh3 H3 _ _ E' (rs.mono e13) s3 (ce.mono e13) h3 fun G4 H4 z g dh4 e4 s4 r4 h4 => ?_
    exact hr' G4 hid dh4 H4 Q Q' u z e g s4 (RD.mono e4 _ (RD.mono e3 _ r2)) r4 h4 (k.mono (e13.trans e4))
  | false => exact k G3 H3 _ _ dh3 e13 s3 (.bl false) h3
end
end Deep

/-! Dp6: pieces, calls, what is walked, comprehensions, statements. -/
namespace Deep
open PySem L2 PyProof.Rows
section
variable {ct : List (String × Addr)} {W : WX} {X : Cx} {S : Sx} {A B C : DE} {ta tb tc : TE}
/-! ### pieces -/
def SimO (S : Sx) (W : WX) (t : TO) (T : DSt → DH → (Option Int → DH → Prop) → XQ → Prop) : Prop := ∀ G hid σ ds dh H (Q : Option Int → Hp → Prop) (Q' : Option Int → DH → Prop) (E' : XQ), RS S.K G σ ds → Sim S.K G dh hid H → CX' S G hid (WE W σ) E' → T ds dh Q' E' → (∀ G' H' o dh', GE G G' → Sim S.K G' dh' hid H' → Q' o dh' → Q o H') → t σ H Q
theorem simO_non : SimO S W tNoPart fun _ h Q _ => Q none h := fun G hid σ ds dh H Q Q' E' rs sm ce h k => k G H none dh (GE.refl G) sm h
theorem simO_som (ha : SimE S W ta A) : SimO S W (tPart ta) fun σ h Q E => A σ h (fun x h1 => match x with
    | .int i => Q (some i) h1
    | _ => False) E := by
  intro G hid σ ds dh H Q Q' E' rs sm ce h k
  refine ha G hid σ ds dh H _ _ E' rs sm ce h fun G1 H1 v d dh1 e1 s1 r1 h1 => ?_
  cases r1 <;> first
    | exact h1.elim
    | exact ⟨_, rfl, k G1 H1 _ dh1 e1 s1 h1⟩
theorem simE_sl {m : LK} {tl th : TO} {L U : DSt → DH → (Option Int → DH → Prop) → XQ → Prop} (ha : SimE S W ta A) (hl : SimO S W tl L) (hh : SimO S W th U) :
    SimE S W (tSl (rSl S.K) ta tl th) fun σ h Q E => A σ h (fun x h1 => L σ h1 (fun l h2 => U σ h2 (fun u h3 => slD m x l u h3 Q) E) E) E := by
  intro G hid σ ds dh H Q Q' E' rs sm ce h k
  refine ha G hid σ ds dh H _ _ E' rs sm ce h fun G1 H1 v d dh1 e1 s1 r1 h1 => ?_
  refine hl G1 hid σ ds dh1 H1 _ _ E' (rs.mono e1) s1 (ce.mono e1) h1 fun G2 H2 l dh2 e2 s2 h2 => ?_
  have e12 := e1.trans e2
  refine hh G2 hid σ ds dh2 H2 _ _ E' (rs.mono e12) s2 (ce.mono e12) h2 fun G3 H3 u dh3 e3 s3 h3 => ?_
  exact sim_sl m s3 (RD.mono e3 _ (RD.mono e2 _ r1)) h3 (k.mono (e12.trans e3))
/-! ### calls -/
/-- a def's promise: what it does over data -/
def spD (S : Sx) (T : List D → DH → DQ → XQ → Prop) : Sp := fun vs H Q E => ∃ (G : Gho) (hid : Hp) (ds : List D) (dh : DH) (Q' : DQ) (E' : XQ), Sim S.K G dh hid H ∧ RDs S.K G vs ds ∧ CX' S G hid E E' ∧ T ds dh Q' E' ∧ CQ S G hid Q Q'
theorem simE_call {t : TA} {T : DA} {R : List D → DH → DQ → XQ → Prop} (ht : SimA S W t T) : SimE S W (tCallS (spD S R) (WE W) t) fun σ h Q E => T σ h (fun ds h1 => R ds h1 Q E) E := by
  intro G hid σ ds dh H Q Q' E' rs sm ce h k
  refine ht G hid σ ds dh H _ _ E' rs sm ce h fun G1 H1 vs es dh1 e1 s1 r1 h1 => ?_
  exact ⟨G1, hid, es, dh1, Q', E', s1, r1, ce.mono e1, h1, k.mono e1⟩
theorem simE_mt {f : Mt} {t : TA} {T : DA} (ha : SimE S W ta A) (ht : SimA S W t T) : SimE S W (tBM S.K "list" (rMt f) ta t) fun σ h Q E => A σ h (fun x h1 => lstAt h1 x ∧ T σ h1 (fun ds h2 => mtD f x ds h2 Q) E) E := by
  intro G hid σ ds dh H Q Q' E' rs sm ce h k
  refine ha G hid σ ds dh H _ _ E' rs sm ce h fun G1 H1 v d dh1 e1 s1 r1 h1 => ?_
  refine ⟨lstAt_ty s1 r1 h1.1, ?_⟩
  refine ht G1 hid σ ds dh1 H1 _ _ E' (rs.mono e1) s1 (ce.mono e1) h1.2 fun G2 H2 vs es dh2 e2 s2 r2 h2 => ?_
  exact sim_mt f G2 hid dh2 H2 Q Q' v d vs es s2 (RD.mono e2 _ r1) r2 h2 (k.mono (e1.trans e2))
theorem simE_mt0 {f : Mt} (ha : SimE S W ta A) : SimE S W (tBM0 S.K "list" (rMt f) ta) fun σ h Q E => A σ h (fun x h1 => lstAt h1 x ∧ mtD f x [] h1 Q) E := by
  intro G hid σ ds dh H Q Q' E' rs sm ce h k
  refine ha G hid σ ds dh H _ _ E' rs sm ce h fun G1 H1 v d dh1 e1 s1 r1 h1 => ?_
  exact ⟨lstAt_ty s1 r1 h1.1, sim_mt f G1 hid dh1 H1 Q Q' v d [] [] s1 r1 .nil h1.2 (k.mono e1)⟩
theorem simE_tm {f : Tm} {m : LK} (ha : SimE S W ta A) (hb : SimE S W tb B) : SimE S W (tM1 (rTm S.K f) ta tb) fun σ h Q E => A σ h (fun x h1 => isStrD x ∧ B σ h1 (fun y h2 => tmD f m x y h2 Q) E) E := by
  intro G hid σ ds dh H Q Q' E' rs sm ce h k
  refine ha G hid σ ds dh H _ _ E' rs sm ce h fun G1 H1 v d dh1 e1 s1 r1 h1 => ?_
  have hv : ∃ a, v = .str a := by
    cases r1 <;> first
      | exact h1.1.elim
      | exact ⟨_, rfl⟩
  refine ⟨hv, ?_⟩
  refine hb G1 hid σ ds dh1 H1 _ _ E' (rs.mono e1) s1 (ce.mono e1) h1.2 fun G2 H2 u e dh2 e2 s2 r2 h2 => ?_
  exact sim_tm f m s2 (RD.mono e2 _ r1) r2 h2 (k.mono (e1.trans e2))
theorem delD_sub {dh : DH} {p : Addr} : Sub (delD dh p) dh := fun a o e => by
  unfold delD at e
  split at e
  · cases e
  · exact e
theorem delD_none {dh : DH} {p : Addr} : delD dh p p = none := by unfold delD; rw [if_pos rfl]
theorem simE_frz (ha : SimE S W ta A) : SimE S W (tFrz ta) fun σ h Q E => A σ h (fun x h1 => frzD x h1 Q) E := by
  intro G hid σ ds dh H Q Q' E' rs sm ce h k
  refine ha G hid σ ds dh H _ _ E' rs sm ce h fun G1 H1 v d dh1 e1 s1 r1 h1 => ?_
  unfold frzD at h1
  split at h1
  · rename_i p
    cases r1
    split at h1
    · rename_i xs hx
      obtain ⟨G2, e2, s2, r2⟩ := s1.freeze hx delD_sub delD_none
      exact .inl (k G2 H1 _ _ _ (e1.trans e2) s2 r2 h1)
    · rename_i xs hx
      obtain ⟨u, hu, mu, f⟩ := s1.freezeK hx delD_sub delD_none
      refine .inr ⟨p, u, rfl, hu, mu, fun o => ?_⟩
      obtain ⟨G2, e2, s2, r2⟩ := f o
      exact k G2 _ _ _ _ (e1.trans e2) s2 r2 h1
    · rename_i xs hx
      obtain ⟨u, hu, mu, f⟩ := s1.freezeT hx delD_sub delD_none
      refine .inr ⟨p, u, rfl, hu, mu, fun o => ?_⟩
      obtain ⟨G2, e2, s2, r2⟩ := f o
      exact k G2 _ _ _ _ (e1.trans e2) s2 r2 h1
    · exact .inl (k G1 H1 _ _ _ e1 s1 (.ref p) h1)
  · exact .inl (k G1 H1 _ _ _ e1 s1 r1 h1)
theorem simE_dnew (t : Bool) : SimE S W (if t = true then tDNewX S.K.w else tDNewK) fun _ h Q _ => dnewD t h Q := by
  intro G hid σ ds dh H Q Q' E' rs sm ce h k
  cases t with
  | false =>
    show tDNewK σ H Q
    exact fun p hp => k G _ _ _ _ (GE.refl G) (sm.newD (k := .dK []) hp ⟨[], upd_same, .nil⟩) (.ref p) (h p (sm.dnone hp))
  | true =>
    show tDNewX S.K.w σ H Q
    exact fun p hp hs => k G _ _ _ _ (GE.refl G) (sm.newD (k := .dT []) hp ⟨[], upd_same, ⟨Nat.zero_le _, hs, List.nodup_nil, fun _ z => nomatch z⟩, .nil⟩) (.ref p) (h p (sm.dnone hp))
theorem simE_ddsp (ha : SimE S W ta A) (hb : SimE S W tb B) : SimE S W (tDisp1 S.K.w S.K ta tb) fun σ h Q E => ∀ p, h p = none → A σ (updD h p (.dT [])) (fun x h1 => B σ h1 (fun y h2 => h2 p = some (.dT []) ∧ match dKey x with
      | some k => keyOk k ∧ Q (.ref p) (updD h2 p (.dT [(k, y)]))
      | none => False) E) E := by
  intro G hid σ ds dh H Q Q' E' rs sm ce h k
  intro p hp hs
  have s0 : Sim S.K G (updD dh p (.dT [])) hid (upd H p (rawO S.K.w p [])) := sm.newD (k := .dT []) hp ⟨[], upd_same, ⟨Nat.zero_le _, hs, List.nodup_nil, fun _ z => nomatch z⟩, .nil⟩
  refine ha G hid σ ds _ _ _ _ E' rs s0 ce (h p (sm.dnone hp)) fun G1 H1 v d dh1 e1 s1 r1 h1 => ?_
  refine hb G1 hid σ ds dh1 H1 _ _ E' (rs.mono e1) s1 (ce.mono e1) h1 fun G2 H2 u e dh2 e2 s2 r2 h2 => ?_
  obtain ⟨h3, h4⟩ := h2
  split at h4
  · rename_i kk hk
    obtain ⟨_, vs, ev, t, rx⟩ := s2.d p _ h3
    cases rx
    obtain ⟨b, hx, rb⟩ := xKey_of s2 (RD.mono e2 _ r1) hk h4.1
    have put : DtOk p (putX [] kk b u) := t.put h4.1.1 (by show 0 < sizeLine; decide)
    refine ⟨ev, kk, b, hx, ?_⟩
    exact k G2 _ _ _ _ (e1.trans e2) (s2.write (k' := .dT [(kk, e)]) h3 ⟨[(kk, b, u)], upd_same, put, .cons rb r2 .nil⟩) (.ref p) h4.2
  · exact h4.elim
theorem simE_mxd (ha : SimE S W ta A) (hb : SimE S W tb B) : SimE S W (tCKw (rMaxDef S.K) (tCons ta tNil) (tCons tb tNil)) fun σ h Q E => A σ h (fun x h1 => B σ h1 (fun z h2 => mxdD x z h2 Q) E) E := by
  intro G hid σ ds dh H Q Q' E' rs sm ce h k
  refine ha G hid σ ds dh H _ _ E' rs sm ce h fun G1 H1 v d dh1 e1 s1 r1 h1 => ?_
  refine hb G1 hid σ ds dh1 H1 _ _ E' (rs.mono e1) s1 (ce.mono e1) h1 fun G2 H2 u e dh2 e2 s2 r2 h2 => ?_
  have k2 := k.mono (e1.trans e2)
  unfold mxdD at h2
  split at h2
  · rename_i xs ex
    obtain ⟨a, vs, rfl, hs, rr⟩ := asL_of s2 (RD.mono e2 _ r1) ex
    split at h2
    · rename_i en
      have e3 := ints_of rr en
      subst e3
      exact ⟨a, [], u, rfl, rfl, SqL.of hs, fun _ => k2.same s2 r2 h2, fun n r z => nomatch z⟩
    · rename_i n r en
      have e3 := ints_of rr en
      subst e3
      exact ⟨a, n :: r, u, rfl, rfl, SqL.of hs, fun z => (nomatch z), fun n' r' z => by cases z; exact k2.same s2 (.int _) h2⟩
    · exact h2.elim
  · exact h2.elim
theorem RDs.of_rng {K : FW} : ∀ (n : Nat) (lo : Int), RDs K G (rngV lo n) (rngL lo n)
  | 0, _ => .nil
  | n + 1, lo => .cons (.int lo) (RDs.of_rng n (lo + 1))
theorem simE_lrng {m : LK} (ha : SimE S W ta A) : SimE S W (tCB rLRng (tCons (tCB rRange1 (tCons ta tNil)) tNil)) fun σ h Q E => A σ h (fun x h1 => lrngD m x h1 Q) E := by
  intro G hid σ ds dh H Q Q' E' rs sm ce h k
  refine ha G hid σ ds dh H _ _ E' rs sm ce h fun G1 H1 v d dh1 e1 s1 r1 h1 => ?_
  cases r1 <;> first
    | exact h1.elim
    | skip
  obtain ⟨⟨b1, b2, b3⟩, q⟩ := h1
  refine ⟨_, rfl, fun p hp => ?_⟩
  refine ⟨p, _, rfl, upd_same, b1, b2, b3, ?_⟩
  exact new_lst (s1.grow (grows hp)) (RDs.of_rng _ _) q (k.mono e1)
theorem simE_dget (ha : SimE S W ta A) (hb : SimE S W tb B) (hc : SimE S W tc C) : SimE S W (tDGetX S.K ta tb tc) fun σ h Q E => A σ h (fun x h1 => isDic h1 x ∧ B σ h1 (fun y h2 => C σ h2 (fun z h3 => dget2D x y z h3 Q) E) E) E := by
  intro G hid σ ds dh H Q Q' E' rs sm ce h k
  refine ha G hid σ ds dh H _ _ E' rs sm ce h fun G1 H1 v d dh1 e1 s1 r1 h1 => ?_
  obtain ⟨a, rfl, di⟩ := isDic_of s1 r1 h1.1
  refine ⟨a, rfl, di, ?_⟩
  refine hb G1 hid σ ds dh1 H1 _ _ E' (rs.mono e1) s1 (ce.mono e1) h1.2 fun G2 H2 u e dh2 e2 s2 r2 h2 => ?_
  have e12 := e1.trans e2
  refine hc G2 hid σ ds dh2 H2 _ _ E' (rs.mono e12) s2 (ce.mono e12) h2 fun G3 H3 w f dh3 e3 s3 r3 h3 => ?_
  unfold dget2D at h3
  split at h3
  · rename_i dv hd
    obtain ⟨a', o, p, e4, g, r, q⟩ := lookD_of s3 (RD.mono e3 _ (RD.mono e2 _ r1)) (RD.mono e3 _ r2) hd h3
    cases e4
    refine ⟨o, g, ?_⟩
    have k3 := k.mono (e12.trans e3)
    cases o with
    | none =>
      cases p with
      | none => exact k3.same s3 r3 q
      | some y => exact r.elim
    | some x =>
      cases p with
      | none => exact r.elim
      | some y => exact k3.same s3 r q
  · exact h3.elim

/-! ### what is walked -/
def WalkOk (K : FW) (G : Gho) (J : It) (xs : List D) (ok : DH → Prop) : Prop := ∀ G' hid dh H, GE G G' → Sim K G' dh hid H → ok dh →
  J.stop xs.length H ∧ ∀ i, i < xs.length → J.go i H ∧ ∀ x H', J.yld i H x H' → ∃ G'' d, GE G' G'' ∧ Sim K G'' dh hid H' ∧ xs[i]? = some d ∧ RD K G'' x d
abbrev DI := DSt → DH → (List D → (DH → Prop) → DH → Prop) → XQ → Prop
def SimI (S : Sx) (W : WX) (wi : TI) (T : DI) : Prop := ∀ G hid σ ds dh H (R : It → Hp → Prop) (R' : List D → (DH → Prop) → DH → Prop) (E' : XQ), RS S.K G σ ds → Sim S.K G dh hid H → CX' S G hid (WE W σ) E' → T ds dh R' E' →
  (∀ G' H' J xs ok dh', GE G G' → Sim S.K G' dh' hid H' → WalkOk S.K G' J xs ok → ok dh' → R' xs ok dh' → R J H') → wi σ H R
def JI (ct : List (String × Addr)) (W : WX) (X : Cx) (tg iter : Expr) (T : DI) : Prop := ∃ wi, PI X tg iter wi ∧ SimI (sx ct X) W wi T
variable {K : FW} {G : Gho}
/-- items that stand at an address, read at each turn -/
theorem walk_of {J : It} {xs : List D} {ok : DH → Prop} {a : Addr} {P : Hp → List V → Prop} (hs : ∀ H vs, P H vs → J.stop vs.length H) (hg : ∀ H vs i (v : V), P H vs → vs[i]? = some v → J.go i H) (hy : ∀ H vs i x H', P H vs → J.yld i H x H' → H' = H ∧ vs[i]? = some x)
    (hf : ∀ G' hid dh H, GE G G' → Sim K G' dh hid H → ok dh → ∃ vs, P H vs ∧ RDs K G' vs xs) : WalkOk K G J xs ok := by
  intro G' hid dh H e sm o
  obtain ⟨vs, p, r⟩ := hf G' hid dh H e sm o
  have l := r.length
  refine ⟨by rw [← l]; exact hs H vs p, fun i hi => ⟨hg H vs i vs[i] p (by simp), fun x H' y => ?_⟩⟩
  obtain ⟨rfl, e1⟩ := hy H vs i x H' p y
  obtain ⟨d, e2, r2⟩ := r.getV e1
  exact ⟨G', d, GE.refl _, sm, e2, r2⟩
theorem walkOk_list {a : Addr} {xs : List D} {ok : DH → Prop} (hf : ∀ G' hid dh H, GE G G' → Sim K G' dh hid H → ok dh → ∃ vs, SqL K H a vs ∧ RDs K G' vs xs) : WalkOk K G (Itl K a) xs ok :=
  walk_of (a := a) (P := fun H vs => SqL K H a vs) (fun _ vs p => ⟨vs, p, Nat.le_refl _⟩) (fun _ vs _ v p e => ⟨vs, v, p, e⟩) (fun _ vs _ _ _ p y => ⟨y.1, y.2 vs p⟩) hf
theorem walkOk_tup {a : Addr} {xs : List D} {ok : DH → Prop} (hf : ∀ G' hid dh H, GE G G' → Sim K G' dh hid H → ok dh → ∃ vs, SqT K H a vs ∧ RDs K G' vs xs) : WalkOk K G (Itt K a) xs ok :=
  walk_of (a := a) (P := fun H vs => SqT K H a vs) (fun _ vs p => ⟨vs, p, Nat.le_refl _⟩) (fun _ vs _ v p e => ⟨vs, v, p, e⟩) (fun _ vs _ _ _ p y => ⟨y.1, y.2 vs p⟩) hf
theorem rngL_get (lo : Int) : ∀ (n i : Nat), i < n → (rngL lo n)[i]? = some (.int (lo + i))
  | 0, i, h => by omega
  | n + 1, 0, _ => by simp [rngL]
  | n + 1, i + 1, h => by
    have := rngL_get (lo + 1) n i (by omega)
    simp only [rngL, List.getElem?_cons_succ, this]
    congr 2
    omega
theorem rngL_length (lo : Int) (n : Nat) : (rngL lo n).length = n := by
  induction n generalizing lo with
  | zero => rfl
  | succ n ih => simp only [rngL, List.length_cons, ih]
theorem walkOk_rng {lo : Int} {n : Nat} : WalkOk K G (Itr lo n) (rngL lo n) fun _ => True := by
  intro G' hid dh H e sm _
  rw [rngL_length]
  refine ⟨Nat.le_refl _, fun i hi => ⟨hi, fun x H' y => ?_⟩⟩
  obtain ⟨rfl, rfl⟩ := y
  exact ⟨G', _, GE.refl _, sm, rngL_get lo n i hi, .int _⟩
theorem rngC_get (lo c : Int) : ∀ (n i : Nat), i < n → (rngC lo c n)[i]? = some (.int (lo + (i : Nat) * c))
  | 0, i, h => by omega
  | n + 1, 0, _ => by simp [rngC]
  | n + 1, i + 1, h => by
    have := rngC_get (lo + c) c n i (by omega)
    simp only [rngC, List.getElem?_cons_succ, this]
    congr 2
    have e : ((i + 1 : Nat) : Int) * c = (i : Int) * c + c := by rw [Int.natCast_add, Int.add_mul]; simp
    rw [e]
    omega
theorem rngC_length (lo c : Int) (n : Nat) : (rngC lo c n).length = n := by
  induction n generalizing lo with
  | zero => rfl
  | succ n ih => simp only [rngC, List.length_cons, ih]
theorem walkOk_rngC {lo c : Int} {n : Nat} : WalkOk K G (Itc lo c n) (rngC lo c n) fun _ => True := by
  intro G' hid dh H e sm _
  rw [rngC_length]
  refine ⟨Nat.le_refl _, fun i hi => ⟨hi, fun x H' y => ?_⟩⟩
  obtain ⟨rfl, rfl⟩ := y
  exact ⟨G', _, GE.refl _, sm, rngC_get lo c n i hi, .int _⟩
theorem walkOk_str {z : Str} : WalkOk K G (Its z) (strL z) fun _ => True := by
  intro G' hid dh H e sm _
  have l : (strL z).length = z.cps.size := by simp [strL]
  rw [l]
  refine ⟨Nat.le_refl _, fun i hi => ⟨hi, fun x H' y => ?_⟩⟩
  obtain ⟨rfl, c, e1, rfl⟩ := y
  refine ⟨G', .str ⟨#[c]⟩, GE.refl _, sm, ?_, .str _⟩
  simp [strL, e1]
/-- a list that is walked -/
theorem walkL_of {R : List D → (DH → Prop) → Prop} {dh : DH} {hid H : Hp} {v : V} {d : D} (sm : Sim K G dh hid H) (r : RD K G v d) (h : walkL d dh R) :
    ∃ a xs ok, v = .ref a ∧ (∃ vs, SqL K H a vs) ∧ ok dh ∧ R xs ok ∧ ∀ G' hid dh H, GE G G' → Sim K G' dh hid H → ok dh → ∃ vs, SqL K H a vs ∧ RDs K G' vs xs := by
  unfold walkL at h
  split at h
  · cases r with
    | lst g rs => exact ⟨_, _, _, rfl, ⟨_, SqL.of (sm.g _ _ g)⟩, True.intro, h, fun G' hid dh H e s _ => ⟨_, SqL.of (s.g _ _ (e _ _ g)), RDs.mono e _ rs⟩⟩
  · cases r with
    | scr g =>
      rcases g with g | g
      · exact ⟨_, _, _, rfl, ⟨_, .inl (sm.g _ _ g)⟩, True.intro, h, fun G' hid dh H e s _ => ⟨_, .inl (s.g _ _ (e _ _ g)), RDs.of_ints _⟩⟩
      · exact ⟨_, _, _, rfl, ⟨_, .inr g⟩, True.intro, h, fun G' hid dh H e s _ => ⟨_, .inr g, RDs.of_ints _⟩⟩
  · rename_i a
    split at h
    · rename_i xs hx
      cases r
      obtain ⟨_, vs, e1, _⟩ := sm.d a _ hx
      refine ⟨a, xs, _, rfl, ⟨vs, SqL.of e1⟩, hx, h, fun G' hid dh H e s o => ?_⟩
      obtain ⟨_, vs, e1, r1⟩ := s.d a _ o
      exact ⟨vs, SqL.of e1, r1⟩
    · exact h.elim
  · exact h.elim
theorem walkT_of {dh : DH} {hid H : Hp} {v : V} {ds : List D} (sm : Sim K G dh hid H) (r : RD K G v (.tup ds)) :
    ∃ a, v = .ref a ∧ (∃ vs, SqT K H a vs) ∧ ∀ G' hid dh H, GE G G' → Sim K G' dh hid H → True → ∃ vs, SqT K H a vs ∧ RDs K G' vs ds := by
  obtain ⟨a, xs, rfl, h, rs⟩ := tup_of sm r
  refine ⟨a, rfl, ⟨xs, h⟩, fun G' hid dh H e s _ => ?_⟩
  have r' := RD.mono e _ r
  obtain ⟨b, ys, q, h', rs'⟩ := tup_of s r'
  cases q
  exact ⟨ys, h', rs'⟩
/-- a list, a tuple or a text that is walked, by what it is -/
def iSeq (K : PySem.W.Frag) (te : TE) : TI := fun σ H R => te σ H fun v H1 => (∃ a, v = .ref a ∧ (∃ vs, SqL K H1 a vs) ∧ R (Itl K a) H1) ∨ ((∃ a, v = .ref a ∧ (∃ vs, SqT K H1 a vs) ∧ R (Itt K a) H1) ∨ ∃ z, v = .str z ∧ R (Its z) H1)
theorem pi_seq {tg e : Expr} {te : TE} (he : PE X e te) : PI X tg e (iSeq X.K te) := by
  constructor
  intro pins st σ H R I hw
  refine thn (he.run pins st σ H _ I hw) fun uv st1 hq => ?_
  obtain ⟨vv, H1, I1, rr, hq⟩ := hq
  rcases hq with ⟨a, rfl, ⟨ys, hs⟩, q⟩ | ⟨a, rfl, ⟨ys, hs⟩, q⟩ | ⟨z, rfl, q⟩
  · cases rr
    obtain ⟨us, _, pl, _⟩ := I1.list hs
    exact wpAny_pyIter_list pl.isList (pi_one (tk := st1.toks) I1 _ (turn_list a _) ⟨_, Heap.get?_push_size _ rfl, rfl, rfl⟩ q)
  · cases rr
    obtain ⟨us, _, pl, _⟩ := I1.tuple hs
    exact wpAny_pyIter_tuple (show st1.heap.IsTuple a us.toArray from pl) (pi_one (tk := st1.toks) I1 _ (turn_tuple a _) ⟨_, Heap.get?_push_size _ rfl, rfl, rfl⟩ q)
  · obtain ⟨t, rfl⟩ := rr
    cases hb : z.cps.all (· < 128)
    · exact wpAny_pyIter_wide hb (pi_one (tk := st1.toks) I1 _ (turn_str _ z t "str_iterator" (.inr rfl)) ⟨_, Heap.get?_push_size _ rfl, rfl, rfl⟩ q)
    · exact wpAny_pyIter_ascii hb (pi_one (tk := st1.toks) I1 _ (turn_str _ z t "str_ascii_iterator" (.inl rfl)) ⟨_, Heap.get?_push_size _ rfl, rfl, rfl⟩ q)
theorem walkOk_keysK {a : Addr} {o : Obj} {ks : List Key} {vs : List V} (g : G a = some (.dk o (ks.zip vs))) (l : ks.length = vs.length) (hh : ∀ G' hid dh H, GE G G' → Sim K G' dh hid H → H a = some (.frz o (.dK (ks.zip vs)))) : WalkOk K G (Itk a o (ks.zip vs)) (ks.map kD) fun _ => True := by
  intro G' hid dh H e sm _
  have h := hh G' hid dh H e sm
  have lz : (ks.zip vs).length = ks.length := by rw [List.length_zip]; omega
  rw [List.length_map]
  refine ⟨⟨h, by omega⟩, fun i hi => ⟨⟨h, by omega⟩, fun x H' y => ?_⟩⟩
  obtain ⟨rfl, k, v, e1, rfl⟩ := y
  refine ⟨G', kD k, GE.refl _, sm, ?_, ?_⟩
  · have e2 := congrArg (Option.map Prod.fst) e1
    rw [← List.getElem?_map, List.map_fst_zip (by omega)] at e2
    rw [List.getElem?_map, e2]
    rfl
  · cases k with
    | inl i => exact .int i
    | inr z => exact .str z
theorem walkOk_keysT {a : Addr} {o : Obj} {vs : List Ent3} {ks : List D} (ns : (a == sysModules) = false) (r : RDs K G (vs.map fun x => V.ref x.2.1) ks) (hh : ∀ G' hid dh H, GE G G' → Sim K G' dh hid H → H a = some (.frz o (rawO K.w a vs))) : WalkOk K G (Itx K.w a o vs) ks fun _ => True := by
  intro G' hid dh H e sm _
  have h := hh G' hid dh H e sm
  have l := r.length
  rw [List.length_map] at l
  refine ⟨⟨⟨h, ns⟩, by omega⟩, fun i hi => ⟨⟨⟨h, ns⟩, by omega⟩, fun x H' y => ?_⟩⟩
  obtain ⟨rfl, e0, e1, rfl⟩ := y
  have e2 : (vs.map fun x => V.ref x.2.1)[i]? = some (.ref e0.2.1) := by
    rw [List.getElem?_map, e1]
    rfl
  obtain ⟨d, e3, r3⟩ := r.getV e2
  exact ⟨G', d, GE.refl _, sm, e3, RD.mono e _ r3⟩
/-- .. or a locked dict -/
def iSeqD (w : World) (K : PySem.W.Frag) (te : TE) : TI := fun σ H R => te σ H fun v H1 => ((∃ a, v = .ref a ∧ (∃ vs, SqL K H1 a vs) ∧ R (Itl K a) H1) ∨ ((∃ a, v = .ref a ∧ (∃ vs, SqT K H1 a vs) ∧ R (Itt K a) H1) ∨ ∃ z, v = .str z ∧ R (Its z) H1)) ∨
  ∃ d o, v = .ref d ∧ ((∃ kvs, H1 d = some (.frz o (.dK kvs)) ∧ R (Itk d o kvs) H1) ∨ ∃ vs, H1 d = some (.frz o (rawO w d vs)) ∧ (d == sysModules) = false ∧ R (Itx w d o vs) H1)
theorem pi_seqD {tg e : Expr} {te : TE} (he : PE X e te) : PI X tg e (iSeqD X.w X.K te) := by
  constructor
  intro pins st σ H R I hw
  refine thn (he.run pins st σ H _ I hw) fun uv st1 hq => ?_
  obtain ⟨vv, H1, I1, rr, hq⟩ := hq
  rcases hq with (⟨a, rfl, ⟨ys, hs⟩, q⟩ | ⟨a, rfl, ⟨ys, hs⟩, q⟩ | ⟨z, rfl, q⟩) | ⟨d, o, rfl, hq⟩
  · cases rr
    obtain ⟨us, _, pl, _⟩ := I1.list hs
    exact wpAny_pyIter_list pl.isList (pi_one (tk := st1.toks) I1 _ (turn_list a _) ⟨_, Heap.get?_push_size _ rfl, rfl, rfl⟩ q)
  · cases rr
    obtain ⟨us, _, pl, _⟩ := I1.tuple hs
    exact wpAny_pyIter_tuple (show st1.heap.IsTuple a us.toArray from pl) (pi_one (tk := st1.toks) I1 _ (turn_tuple a _) ⟨_, Heap.get?_push_size _ rfl, rfl, rfl⟩ q)
  · obtain ⟨t, rfl⟩ := rr
    cases hb : z.cps.all (· < 128)
    · exact wpAny_pyIter_wide hb (pi_one (tk := st1.toks) I1 _ (turn_str _ z t "str_iterator" (.inr rfl)) ⟨_, Heap.get?_push_size _ rfl, rfl, rfl⟩ q)
    · exact wpAny_pyIter_ascii hb (pi_one (tk := st1.toks) I1 _ (turn_str _ z t "str_ascii_iterator" (.inl rfl)) ⟨_, Heap.get?_push_size _ rfl, rfl, rfl⟩ q)
  · obtain rfl : uv = Value.ref d := rr
    rcases hq with ⟨kvs, hd, q⟩ | ⟨vs, hd, hs, q⟩
    · obtain ⟨hs, hgd, hx, es, ep, vs, hdt, hsz, kv, hm⟩ := I1.frzK hd
      refine iter_keys hs hgd hx hdt (pi_one (tk := st1.toks) I1 _ (turn_keys _ hdt) ⟨_, Heap.get?_push_size _ rfl, rfl, ?_⟩ q)
      rw [hsz] <;> rfl
    · obtain ⟨hgd, hx, es, ep, hdt, hsz, ent⟩ := frzX I1 hd
      refine iter_keys hs hgd hx hdt (pi_one (tk := st1.toks) I1 _ (turn_keysX _ hdt) ⟨_, Heap.get?_push_size _ rfl, rfl, ?_⟩ q)
      rw [hsz] <;> rfl
theorem simI_seq (ha : SimE S W ta A) : SimI S W (iSeqD S.K.w S.K ta) fun σ h R E => A σ h (fun x h1 => walkD x h1 fun xs ok => R xs ok h1) E := by
  intro G hid σ ds dh H R R' E' rs sm ce h k
  refine ha G hid σ ds dh H _ _ E' rs sm ce h fun G1 H1 v d dh1 e1 s1 r1 h1 => ?_
  have lst : walkL d dh1 (fun xs ok => R' xs ok dh1) → ∃ a, v = .ref a ∧ (∃ vs, SqL S.K H1 a vs) ∧ R (Itl S.K a) H1 := fun q => by
    obtain ⟨a, xs, ok, e, h2, o, q, f⟩ := walkL_of s1 r1 q
    exact ⟨a, e, h2, k G1 H1 _ xs ok dh1 e1 s1 (walkOk_list f) o q⟩
  cases d with
  | tup xs =>
    obtain ⟨a, e, h2, f⟩ := walkT_of s1 r1
    exact .inl (.inr (.inl ⟨a, e, h2, k G1 H1 _ xs _ dh1 e1 s1 (walkOk_tup f) True.intro h1⟩))
  | str z =>
    cases r1
    exact .inl (.inr (.inr ⟨z, rfl, k G1 H1 _ (strL z) _ dh1 e1 s1 walkOk_str True.intro h1⟩))
  | lst xs => exact .inl (.inl (lst h1))
  | scr xs => exact .inl (.inl (lst h1))
  | ref xs => exact .inl (.inl (lst h1))
  | dk ks xs =>
    cases r1 with
    | dk g l rs' => exact .inr ⟨_, _, rfl, .inl ⟨_, s1.g _ _ g, k G1 H1 _ _ _ dh1 e1 s1 (walkOk_keysK g l fun G' hid dh H e s => s.g _ _ (e _ _ g)) True.intro h1⟩⟩
  | dt ks xs =>
    cases r1 with
    | dt g l r r' => exact .inr ⟨_, _, rfl, .inr ⟨_, (s1.g _ _ g).1, (s1.g _ _ g).2.ns, k G1 H1 _ _ _ dh1 e1 s1 (walkOk_keysT (s1.g _ _ g).2.ns r fun G' hid dh H e s => (s.g _ _ (e _ _ g)).1) True.intro h1⟩⟩
  | _ => exact h1.elim
end
end Deep

/-! Dp7: zip, enumerate, reversed, range; targets; comprehensions; statements. -/
namespace Deep
open PySem L2 PyProof.Rows
section
variable {ct : List (String × Addr)} {W : WX} {X : Cx} {S : Sx} {A B C : DE} {ta tb tc : TE} {K : FW} {G : Gho}
/-! ### zip, enumerate, reversed, range -/
theorem zipL_length : ∀ (xs ys : List D), (zipL xs ys).length = min xs.length ys.length
  | [], ys => by simp [zipL]
  | x :: xs, [] => by simp [zipL]
  | x :: xs, y :: ys => by
    simp only [zipL, List.length_cons, zipL_length xs ys]
    omega
theorem zipL_get : ∀ (xs ys : List D) {i : Nat} {x y : D}, xs[i]? = some x → ys[i]? = some y → (zipL xs ys)[i]? = some (.tup [x, y])
  | [], _, _, _, _, h, _ => by simp at h
  | x :: xs, [], _, _, _, _, h => by simp at h
  | x :: xs, y :: ys, 0, _, _, h, h' => by simp at h h'; subst h h'; simp [zipL]
  | x :: xs, y :: ys, i + 1, _, _, h, h' => by
    simp only [zipL, List.getElem?_cons_succ] at h h' ⊢
    exact zipL_get xs ys h h'
theorem enmL_length (k : Nat) (xs : List D) : (enmL k xs).length = xs.length := by
  induction xs generalizing k with
  | nil => rfl
  | cons x xs ih => simp only [enmL, List.length_cons, ih]
theorem enmL_get (k : Nat) : ∀ (xs : List D) {i : Nat} {x : D}, xs[i]? = some x → (enmL k xs)[i]? = some (.tup [.int ((k + i : Nat) : Int), x])
  | [], _, _, h => by simp at h
  | x :: xs, 0, _, h => by simp at h; subst h; simp [enmL]
  | x :: xs, i + 1, _, h => by
    simp only [enmL, List.getElem?_cons_succ] at h ⊢
    rw [enmL_get (k + 1) xs h]
    have e : k + 1 + i = k + (i + 1) := by omega
    rw [e]
theorem walk_pair {J : It} {n : Nat} {zs : List D} {ok : DH → Prop} (hn : zs.length = n)
    (hs : ∀ G' hid dh H, GE G G' → Sim K G' dh hid H → ok dh → J.stop n H) (hg : ∀ G' hid dh H, GE G G' → Sim K G' dh hid H → ok dh → ∀ i, i < n → J.go i H)
    (hy : ∀ G' hid dh H, GE G G' → Sim K G' dh hid H → ok dh → ∀ i v H', i < n → J.yld i H v H' → ∃ T x y d e, v = .ref T ∧ H T = none ∧ H' = upd H T (.tup [x, y]) ∧ RD K G' x d ∧ RD K G' y e ∧ zs[i]? = some (.tup [d, e])) : WalkOk K G J zs ok := by
  intro G' hid dh H e sm o
  rw [hn]
  refine ⟨hs G' hid dh H e sm o, fun i hi => ⟨hg G' hid dh H e sm o i hi, fun v H' yd => ?_⟩⟩
  obtain ⟨T, x, y, d, f, rfl, hT, rfl, r1, r2, ez⟩ := hy G' hid dh H e sm o i v H' hi yd
  obtain ⟨s', e'⟩ := sm.newG (o := .tup [x, y]) (k := .tup [x, y]) hT upd_same
  exact ⟨_, _, e', s', ez, .tup (.inl updG_same) (.cons (RD.mono e' _ r1) (.cons (RD.mono e' _ r2) .nil))⟩
theorem walkOk_zip {a b : Addr} {xs ys : List D} {ok ok' : DH → Prop} (f : ∀ G' hid dh H, GE G G' → Sim K G' dh hid H → ok dh → ∃ vs, SqL K H a vs ∧ RDs K G' vs xs) (g : ∀ G' hid dh H, GE G G' → Sim K G' dh hid H → ok' dh → ∃ vs, SqL K H b vs ∧ RDs K G' vs ys) :
    WalkOk K G (Itz K a b) (zipL xs ys) fun dh => ok dh ∧ ok' dh := by
  refine walk_pair (n := min xs.length ys.length) (zipL_length xs ys) (fun G' hid dh H e s o => ?_) (fun G' hid dh H e s o i hi => ?_) fun G' hid dh H e s o i v H' hi y => ?_
  · obtain ⟨vs, h1, r1⟩ := f G' hid dh H e s o.1
    obtain ⟨us, h2, r2⟩ := g G' hid dh H e s o.2
    refine ⟨vs, us, h1, h2, ?_⟩
    have l1 := r1.length
    have l2 := r2.length
    omega
  · obtain ⟨vs, h1, r1⟩ := f G' hid dh H e s o.1
    obtain ⟨us, h2, r2⟩ := g G' hid dh H e s o.2
    have l1 := r1.length
    have l2 := r2.length
    exact ⟨vs, us, vs[i]'(by omega), us[i]'(by omega), h1, h2, by simp, by simp⟩
  · obtain ⟨vs, h1, r1⟩ := f G' hid dh H e s o.1
    obtain ⟨us, h2, r2⟩ := g G' hid dh H e s o.2
    obtain ⟨T, x, z, hv, hT, hH, k1, k2⟩ := y
    obtain ⟨d, e1, q1⟩ := r1.getV (k1 vs h1)
    obtain ⟨d2, e2, q2⟩ := r2.getV (k2 us h2)
    exact ⟨T, x, z, d, d2, hv, hT, hH, q1, q2, zipL_get xs ys e1 e2⟩
theorem walkOk_zipT {a b : Addr} {xs ys : List D} (f : ∀ G' hid dh H, GE G G' → Sim K G' dh hid H → True → ∃ vs, SqT K H a vs ∧ RDs K G' vs xs) (g : ∀ G' hid dh H, GE G G' → Sim K G' dh hid H → True → ∃ vs, SqT K H b vs ∧ RDs K G' vs ys) :
    WalkOk K G (RZ.ItzT K a b) (zipL xs ys) fun _ => True := by
  refine walk_pair (n := min xs.length ys.length) (zipL_length xs ys) (fun G' hid dh H e s o => ?_) (fun G' hid dh H e s o i hi => ?_) fun G' hid dh H e s o i v H' hi y => ?_
  · obtain ⟨vs, h1, r1⟩ := f G' hid dh H e s True.intro
    obtain ⟨us, h2, r2⟩ := g G' hid dh H e s True.intro
    refine ⟨vs, us, h1, h2, ?_⟩
    have l1 := r1.length
    have l2 := r2.length
    omega
  · obtain ⟨vs, h1, r1⟩ := f G' hid dh H e s True.intro
    obtain ⟨us, h2, r2⟩ := g G' hid dh H e s True.intro
    have l1 := r1.length
    have l2 := r2.length
    exact ⟨vs, us, vs[i]'(by omega), us[i]'(by omega), h1, h2, by simp, by simp⟩
  · obtain ⟨vs, h1, r1⟩ := f G' hid dh H e s True.intro
    obtain ⟨us, h2, r2⟩ := g G' hid dh H e s True.intro
    obtain ⟨T, x, z, hv, hT, hH, k1, k2⟩ := y
    obtain ⟨d, e1, q1⟩ := r1.getV (k1 vs h1)
    obtain ⟨d2, e2, q2⟩ := r2.getV (k2 us h2)
    exact ⟨T, x, z, d, d2, hv, hT, hH, q1, q2, zipL_get xs ys e1 e2⟩
theorem walkOk_enm {a : Addr} {xs : List D} {ok : DH → Prop} (f : ∀ G' hid dh H, GE G G' → Sim K G' dh hid H → ok dh → ∃ vs, SqL K H a vs ∧ RDs K G' vs xs) : WalkOk K G (Ite K a) (enmL 0 xs) ok := by
  refine walk_pair (n := xs.length) (enmL_length 0 xs) (fun G' hid dh H e s o => ?_) (fun G' hid dh H e s o i hi => ?_) fun G' hid dh H e s o i v H' hi y => ?_
  · obtain ⟨vs, h1, r1⟩ := f G' hid dh H e s o
    exact ⟨vs, h1, by rw [r1.length]; exact Nat.le_refl _⟩
  · obtain ⟨vs, h1, r1⟩ := f G' hid dh H e s o
    have l1 := r1.length
    exact ⟨vs, vs[i]'(by omega), h1, by simp⟩
  · obtain ⟨vs, h1, r1⟩ := f G' hid dh H e s o
    obtain ⟨T, x, hv, hT, hH, k1⟩ := y
    obtain ⟨d, e1, q1⟩ := r1.getV (k1 vs h1)
    refine ⟨T, .int (i : Nat), x, .int (i : Nat), d, hv, hT, hH, .int _, q1, ?_⟩
    rw [enmL_get 0 xs e1, Nat.zero_add]
theorem walkOk_rev {J : It} {n : Nat} {xs : List D} {ok : DH → Prop} {P : Hp → List V → Prop} (hn : n = xs.length) (hs : ∀ H, J.stop n H) (hg : ∀ H vs i (v : V), P H vs → i < n → vs[n - 1 - i]? = some v → J.go i H) (hy : ∀ H vs i x H', P H vs → J.yld i H x H' → H' = H ∧ vs[n - 1 - i]? = some x)
    (hf : ∀ G' hid dh H, GE G G' → Sim K G' dh hid H → ok dh → ∃ vs, P H vs ∧ RDs K G' vs xs) : WalkOk K G J xs.reverse ok := by
  intro G' hid dh H e sm o
  obtain ⟨vs, p, r⟩ := hf G' hid dh H e sm o
  have l := r.length
  rw [List.length_reverse, ← hn]
  refine ⟨hs H, fun i hi => ⟨hg H vs i (vs[n - 1 - i]'(by omega)) p hi (by simp), fun x H' y => ?_⟩⟩
  obtain ⟨rfl, e1⟩ := hy H vs i x H' p y
  obtain ⟨d, e2, r2⟩ := r.getV e1
  refine ⟨G', d, GE.refl _, sm, ?_, r2⟩
  rw [List.getElem?_reverse (by omega), ← e2, hn]
theorem simI_rng1 (ha : SimE S W ta A) : SimI S W (iRng1 (tCons ta tNil)) fun σ h R E => A σ h (fun x h1 => rngD [x] h1 R) E := by
  intro G hid σ ds dh H R R' E' rs sm ce h k
  refine ha G hid σ ds dh H _ _ E' rs sm ce h fun G1 H1 v d dh1 e1 s1 r1 h1 => ?_
  cases r1 <;> first
    | exact h1.elim
    | exact ⟨_, rfl, h1.1, h1.2.1, k G1 H1 _ _ _ dh1 e1 s1 walkOk_rng True.intro h1.2.2⟩
theorem simI_rng2 (ha : SimE S W ta A) (hb : SimE S W tb B) : SimI S W (iRng2 (tCons ta (tCons tb tNil))) fun σ h R E => A σ h (fun x h1 => B σ h1 (fun y h2 => rngD [x, y] h2 R) E) E := by
  intro G hid σ ds dh H R R' E' rs sm ce h k
  refine ha G hid σ ds dh H _ _ E' rs sm ce h fun G1 H1 v d dh1 e1 s1 r1 h1 => ?_
  refine hb G1 hid σ ds dh1 H1 _ _ E' (rs.mono e1) s1 (ce.mono e1) h1 fun G2 H2 u e dh2 e2 s2 r2 h2 => ?_
  unfold rngD at h2
  split at h2
  · rename_i q; cases q
  · rename_i i j q
    cases q
    cases r1; cases r2
    exact ⟨_, _, rfl, h2.1, k G2 H2 _ _ _ dh2 (e1.trans e2) s2 walkOk_rng True.intro h2.2⟩
  · rename_i q; cases q
  · exact h2.elim
theorem simI_rng3 (ha : SimE S W ta A) (hb : SimE S W tb B) (hc : SimE S W tc C) : SimI S W (iRng3 (tCons ta (tCons tb (tCons tc tNil)))) fun σ h R E => A σ h (fun x h1 => B σ h1 (fun y h2 => C σ h2 (fun z h3 => rngD [x, y, z] h3 R) E) E) E := by
  intro G hid σ ds dh H R R' E' rs sm ce h k
  refine ha G hid σ ds dh H _ _ E' rs sm ce h fun G1 H1 v d dh1 e1 s1 r1 h1 => ?_
  refine hb G1 hid σ ds dh1 H1 _ _ E' (rs.mono e1) s1 (ce.mono e1) h1 fun G2 H2 u e dh2 e2 s2 r2 h2 => ?_
  have e12 := e1.trans e2
  refine hc G2 hid σ ds dh2 H2 _ _ E' (rs.mono e12) s2 (ce.mono e12) h2 fun G3 H3 w f dh3 e3 s3 r3 h3 => ?_
  unfold rngD at h3
  split at h3
  · rename_i q; cases q
  · rename_i q; cases q
  · rename_i i j c q
    cases q
    cases r1; cases r2; cases r3
    obtain ⟨n, h4, h5⟩ := h3
    exact ⟨_, _, _, n, rfl, h4, k G3 H3 _ _ _ dh3 (e12.trans e3) s3 walkOk_rngC True.intro h5⟩
  · exact h3.elim
theorem simI_enm (ha : SimE S W ta A) : SimI S W (iEnum S.K (tCons ta tNil)) fun σ h R E => A σ h (fun x h1 => walkL x h1 fun xs ok => R (enmL 0 xs) ok h1) E := by
  intro G hid σ ds dh H R R' E' rs sm ce h k
  refine ha G hid σ ds dh H _ _ E' rs sm ce h fun G1 H1 v d dh1 e1 s1 r1 h1 => ?_
  obtain ⟨a, xs, ok, rfl, ⟨vs, h2⟩, o, q, f⟩ := walkL_of s1 r1 h1
  exact ⟨a, vs, rfl, h2, k G1 H1 _ _ ok dh1 e1 s1 (walkOk_enm f) o q⟩
theorem simI_zip (ha : SimE S W ta A) (hb : SimE S W tb B) : SimI S W (RZ.iZipA S.K (tCons ta (tCons tb tNil))) fun σ h R E => A σ h (fun x h1 => B σ h1 (fun y h2 => zipW x y h2 fun xs ok => R xs ok h2) E) E := by
  intro G hid σ ds dh H R R' E' rs sm ce h k
  refine ha G hid σ ds dh H _ _ E' rs sm ce h fun G1 H1 v d dh1 e1 s1 r1 h1 => ?_
  refine hb G1 hid σ ds dh1 H1 _ _ E' (rs.mono e1) s1 (ce.mono e1) h1 fun G2 H2 u e dh2 e2 s2 r2 h2 => ?_
  have r1' := RD.mono e2 _ r1
  unfold zipW at h2
  split at h2
  · obtain ⟨a, rfl, ⟨vs, g1⟩, f⟩ := walkT_of s2 r1'
    obtain ⟨b, rfl, ⟨us, g2⟩, f'⟩ := walkT_of s2 r2
    exact ⟨a, b, vs, us, rfl, .inr ⟨g1, g2, k G2 H2 _ _ _ dh2 (e1.trans e2) s2 (walkOk_zipT f f') True.intro h2⟩⟩
  · obtain ⟨a, xs, ok, rfl, ⟨vs, g1⟩, o, q, f⟩ := walkL_of s2 r1' h2
    obtain ⟨b, ys, ok', rfl, ⟨us, g2⟩, o', q', f'⟩ := walkL_of s2 r2 q
    exact ⟨a, b, vs, us, rfl, .inl ⟨g1, g2, k G2 H2 _ _ _ dh2 (e1.trans e2) s2 (walkOk_zip f f') ⟨o, o'⟩ q'⟩⟩
theorem simI_rev (ha : SimE S W ta A) : SimI S W (RT.iRevA S.K ta) fun σ h R E => A σ h (fun x h1 => revW x h1 fun xs ok => R xs ok h1) E := by
  intro G hid σ ds dh H R R' E' rs sm ce h k
  refine ha G hid σ ds dh H _ _ E' rs sm ce h fun G1 H1 v d dh1 e1 s1 r1 h1 => ?_
  unfold revW at h1
  split at h1
  · obtain ⟨a, rfl, ⟨vs, g1⟩, f⟩ := walkT_of s1 r1
    obtain ⟨b, ys, q, g2, rs2⟩ := tup_of s1 r1
    cases q
    refine ⟨a, ys, rfl, .inr ⟨g2, k G1 H1 _ _ _ dh1 e1 s1 (walkOk_rev (P := fun H vs => SqT S.K H a vs) rs2.length (fun _ => Nat.le_refl _) (fun _ vs i v p hi e => ⟨hi, vs, v, p, e⟩) (fun _ vs _ _ _ p y => ⟨y.1, y.2 vs p⟩) f) True.intro h1⟩⟩
  · obtain ⟨a, xs, ok, rfl, ⟨vs, g1⟩, o, q, f⟩ := walkL_of s1 r1 h1
    obtain ⟨us, g2, r2⟩ := f G1 hid dh1 H1 (GE.refl _) s1 o
    refine ⟨a, us, rfl, .inl ⟨g2, k G1 H1 _ _ ok dh1 e1 s1 (walkOk_rev (P := fun H vs => SqL S.K H a vs) r2.length (fun _ => Nat.le_refl _) (fun _ vs i v p hi e => ⟨hi, vs, v, p, e⟩) (fun _ vs _ _ _ p y => ⟨y.1, y.2 vs p⟩) f) o q⟩⟩

/-! ### targets -/
/-- only the slots is are set -/
def OnlyAt (is : List Nat) (σ σ' : L2.St) : Prop := ∀ vs : List Nat, (∀ i ∈ is, i ∈ vs) → wipe σ' vs = wipe σ vs
theorem OnlyAt.refl (is : List Nat) (σ : L2.St) : OnlyAt is σ σ := fun _ _ => rfl
theorem wipe_get {σ : L2.St} {j : Nat} : ∀ {vs : List Nat}, j ∈ vs → (wipe σ vs)[j]? = if j < σ.length then some none else none
  | w :: vs, h => by
    unfold wipe
    by_cases hw : w = j
    · subst hw
      rw [List.getElem?_set]
      simp only [if_true, wipe_length]
    · rw [List.getElem?_set_ne hw]
      rcases List.mem_cons.mp h with rfl | h
      · exact absurd rfl hw
      · exact wipe_get h
theorem wipe_set {σ : L2.St} {i : Nat} {v : Option V} {vs : List Nat} (h : i ∈ vs) : wipe (σ.set i v) vs = wipe σ vs := by
  apply List.ext_getElem?
  intro j
  by_cases hj : j ∈ vs
  · rw [wipe_get hj, wipe_get hj, List.length_set]
  · rw [wipe_out hj, wipe_out hj, List.getElem?_set_ne]
    intro e
    subst e
    exact hj h
theorem wipeD_length (σ : DSt) : ∀ vs : List Nat, (wipeD σ vs).length = σ.length
  | [] => rfl
  | v :: vs => by unfold wipeD; rw [List.length_set, wipeD_length σ vs]
theorem wipeD_some {σ : DSt} {i : Nat} {x : D} : ∀ {vs : List Nat}, (wipeD σ vs)[i]? = some (some x) → σ[i]? = some (some x) ∧ i ∉ vs
  | [], h => ⟨h, by simp⟩
  | v :: vs, h => by
    unfold wipeD at h
    rw [List.getElem?_set] at h
    split at h
    · split at h <;> cases h
    · rename_i hne
      obtain ⟨h1, h2⟩ := wipeD_some h
      exact ⟨h1, by simp only [List.mem_cons, not_or]; exact ⟨fun e => hne e.symm, h2⟩⟩
theorem RS.wipe {σ : L2.St} {ds : DSt} (r : RS K G σ ds) (vs : List Nat) : RS K G (L2.wipe σ vs) (wipeD ds vs) := by
  refine ⟨by rw [wipe_length, wipeD_length]; exact r.1, fun i d h => ?_⟩
  obtain ⟨h1, h2⟩ := wipeD_some h
  rw [wipe_out h2]
  exact r.2 i d h1
theorem RS.set {σ : L2.St} {ds : DSt} {v : V} {d : D} (r : RS K G σ ds) (i : Nat) (q : RD K G v d) : RS K G (σ.set i (some v)) (ds.set i (some d)) := by
  refine ⟨by rw [List.length_set, List.length_set]; exact r.1, fun j e h => ?_⟩
  rw [List.getElem?_set] at h ⊢
  split
  · rename_i hij
    rw [if_pos hij, ← r.1] at h
    split at h
    · rename_i hl
      cases h
      rw [if_pos hl]
      exact ⟨v, rfl, q⟩
    · cases h
  · rename_i hij
    rw [if_neg hij] at h
    exact r.2 j e h
def SimG (K : FW) (is : List Nat) (g : TG) (T : D → DSt → (DSt → Prop) → Prop) : Prop := ∀ G v d σ ds hid dh H (Q : L2.St → Hp → Prop) (Q' : DSt → Prop), RS K G σ ds → Sim K G dh hid H → RD K G v d → T d ds Q' →
  (∀ σ' ds', RS K G σ' ds' → OnlyAt is σ σ' → Q' ds' → Q σ' H) → g v σ H Q
def SimGs (K : FW) (is : List Nat) (g : TGs) (T : List D → DSt → (DSt → Prop) → Prop) : Prop := ∀ G vs es σ ds hid dh H (Q : L2.St → Hp → Prop) (Q' : DSt → Prop), RS K G σ ds → Sim K G dh hid H → RDs K G vs es → T es ds Q' →
  (∀ σ' ds', RS K G σ' ds' → OnlyAt is σ σ' → Q' ds' → Q σ' H) → g vs σ H Q
theorem simG_nm (i : Nat) : SimG K [i] (gName i) (tnD (.nm i)) := by
  intro G v d σ ds hid dh H Q Q' rs sm r h k
  exact k _ _ (rs.set i r) (fun vs hv => wipe_set (hv i (by simp))) h
theorem simGs_nil : SimGs K [] gNil (tnsD .nil) := by
  intro G vs es σ ds hid dh H Q Q' rs sm r h k
  cases r with
  | nil => exact ⟨rfl, k _ _ rs (OnlyAt.refl _ _) h⟩
  | cons a b => exact False.elim h
theorem simGs_cons {t : Tn} {ts : Tns} {is js : List Nat} {g : TG} {gs : TGs} (h1 : SimG K is g (tnD t)) (h2 : SimGs K js gs (tnsD ts)) : SimGs K (is ++ js) (gCons g gs) (tnsD (.cons t ts)) := by
  intro G vs es σ ds hid dh H Q Q' rs sm r h k
  cases r with
  | nil => exact False.elim h
  | cons a b =>
    refine ⟨_, _, rfl, h1 G _ _ σ ds hid dh H _ _ rs sm a h fun σ1 ds1 r1 o1 q1 => ?_⟩
    refine h2 G _ _ σ1 ds1 hid dh H _ _ r1 sm b q1 fun σ2 ds2 r2 o2 q2 => k σ2 ds2 r2 (fun vs hv => ?_) q2
    rw [o2 vs (fun i hi => hv i (List.mem_append.mpr (.inr hi))), o1 vs (fun i hi => hv i (List.mem_append.mpr (.inl hi)))]
theorem simG_tp {ts : Tns} {is : List Nat} {gs : TGs} {n : Nat} (hn : n = tnsLen ts) (h : SimGs K is gs (tnsD ts)) : SimG K is (gTup K n gs) (tnD (.tp ts)) := by
  intro G v d σ ds hid dh H Q Q' rs sm r q k
  simp only [tnD] at q
  split at q
  · obtain ⟨a, xs, rfl, h1, r1⟩ := tup_of sm r
    exact ⟨a, xs, rfl, h1, by rw [r1.length, q.1, hn], h G xs _ σ ds hid dh H Q Q' rs sm r1 q.2 k⟩
  · exact q.elim

/-! ### comprehensions -/
theorem simE_lc {wi : TI} {g : TG} {tt : TT} {te : TE} {I : DI} {T : D → DSt → (DSt → Prop) → Prop} {Ct : DT} {B : DE} {m : LK} {vs is : List Nat} (hv : ∀ i ∈ is, i ∈ vs) (hi : SimI S W wi I) (hg : SimG S.K is g T) (hc : SimT S (fun _ _ _ _ => False) tt Ct) (he : SimE S (fun _ _ _ _ => False) te B) :
    SimE S W (tLc wi g tt te vs) fun σ h Q E => I σ h (fun xs ok h1 => lcD T ok Ct B (wipeD σ vs) (fun acc h2 => newL m acc h2 Q) xs [] h1) E := by
  intro G hid σ ds dh H Q Q' E' rs sm ce h k
  refine hi G hid σ ds dh H _ _ E' rs sm ce h fun G1 H1 J xs ok dh1 e1 s1 wk _ h1 => ?_
  intro p hp
  have hh := s1.hnone hp
  have noce : ∀ (G2 : Gho) (hid2 : Hp) (σ2 : L2.St), CX' S G2 hid2 (WE (fun _ _ _ _ => False) σ2) fun _ _ _ => False := fun _ _ _ _ _ _ _ _ _ _ _ _ _ z => z
  refine ⟨fun i n H2 => n = xs.length - i ∧ i ≤ xs.length ∧ ∃ G2 dh2 acc us, GE G1 G2 ∧ Sim S.K G2 dh2 (upd hid p (.lst us)) H2 ∧ RDs S.K G2 us acc ∧ lcD T ok Ct B (wipeD ds vs) (fun acc h2 => newL m acc h2 Q') (xs.drop i) acc dh2,
    ⟨xs.length, rfl, Nat.zero_le _, G1, dh1, [], [], GE.refl _, s1.newH hp, .nil, h1⟩, ?_⟩
  rintro i n H2 ⟨rfl, hi', G2, dh2, acc, us, e2, s2, ra, h2⟩
  by_cases hlt : i < xs.length
  · right
    rw [List.drop_eq_getElem_cons hlt] at h2
    simp only [lcD] at h2
    obtain ⟨o, h2⟩ := h2
    obtain ⟨_, w⟩ := wk G2 _ dh2 H2 e2 s2 o
    obtain ⟨wg, wy⟩ := w i hlt
    refine ⟨wg, fun H3 => ∃ G3 dh3 acc us, GE G1 G3 ∧ Sim S.K G3 dh3 (upd hid p (.lst us)) H3 ∧ RDs S.K G3 us acc ∧ lcD T ok Ct B (wipeD ds vs) (fun acc h2 => newL m acc h2 Q') (xs.drop (i + 1)) acc dh3, fun H3 q => ⟨xs.length - (i + 1), by omega, rfl, hlt, q⟩, fun x H3 y => ?_⟩
    obtain ⟨G3, d, e3, s3, ed, rd⟩ := wy x H3 y
    have ed' : xs[i] = d := by rw [List.getElem?_eq_getElem hlt] at ed; exact Option.some.inj ed
    rw [ed'] at h2
    have e13 := e2.trans e3
    have r3 : RS S.K G3 (wipe σ vs) (wipeD ds vs) := RS.wipe (rs.mono (e1.trans e13)) vs
    refine hg G3 x d _ _ _ dh2 H3 _ _ r3 s3 rd h2 fun σ4 ds4 r4 o4 h4 => ?_
    have ew : wipe (wipe σ vs) vs = wipe σ vs := by
      apply List.ext_getElem?
      intro j
      by_cases hj : j ∈ vs
      · rw [wipe_get hj, wipe_get hj, wipe_length]
      · rw [wipe_out hj]
    refine ⟨by rw [o4 vs hv, ew], ?_⟩
    refine hc G3 _ σ4 ds4 dh2 H3 _ _ _ r4 s3 (noce _ _ _) h4 fun G5 H5 b dh5 e5 s5 h5 => ?_
    have e15 := e13.trans e5
    have ra5 := RDs.mono (e3.trans e5) _ ra
    cases b with
    | false => exact ⟨G5, dh5, acc, us, e15, s5, ra5, h5⟩
    | true =>
      refine he G5 _ σ4 ds4 dh5 H5 _ _ _ (r4.mono e5) s5 (noce _ _ _) h5 fun G6 H6 v6 d6 dh6 e6 s6 r6 h6 => ?_
      have hq := (s6.h p _ upd_same).2.2
      have ra6 := RDs.mono e6 _ ra5
      refine ⟨us, hq, by rw [ra6.length]; exact h6.1, G6, dh6, acc ++ [d6], us ++ [v6], e15.trans e6, s6.hidW, ra6.append (.cons r6 .nil), h6.2⟩
  · left
    have ei : i = xs.length := by omega
    subst ei
    rw [List.drop_length] at h2
    simp only [lcD] at h2
    obtain ⟨o, h2⟩ := h2
    refine ⟨(wk G2 _ dh2 H2 e2 s2 o).1, ?_⟩
    have hq := (s2.h p _ upd_same).2.2
    have e12 := e1.trans e2
    cases m with
    | f =>
      obtain ⟨e3, s3⟩ := s2.hidG (k := .lst us) hh hq
      exact k _ _ _ _ dh2 (e12.trans e3) s3 (.lst updG_same (RDs.mono e3 _ ra)) h2
    | t => exact k G2 _ _ _ _ e12 (s2.show (o := .lst acc) hh ⟨us, hq, ra⟩) (.ref p) (h2 p (s2.h p _ upd_same).2.1)
    | b =>
      simp only [newL] at h2
      split at h2
      · rename_i c t
        have ev : us = [.int c, .int t] := RDs.ints (ns := [c, t]) ra
        subst ev
        obtain ⟨e3, s3⟩ := s2.hidG (k := .box) hh ⟨c, t, hq, h2.1⟩
        exact k _ _ _ _ dh2 (e12.trans e3) s3 (.box updG_same) (h2.2 p)
      · exact h2.elim

/-! ### statements -/
theorem simS_asg {is : List Nat} {g : TG} {T : D → DSt → (DSt → Prop) → Prop} (ha : SimE S W ta A) (hg : SimG S.K is g T) : SimS S W (tAsg ta g) fun Z σ h => A σ h (fun x h1 => T x σ fun σ' => Z.nx σ' h1) fun c fs h' => Z.ex c fs σ h' := by
  intro G hid σ ds dh H Z Z' rs sm sd h
  refine ha G hid σ ds dh H _ _ _ rs sm (sd.cx rs) h fun G1 H1 v d dh1 e1 s1 r1 h1 => ?_
  exact hg G1 v d σ ds hid dh1 H1 _ _ (rs.mono e1) s1 r1 h1 fun σ' ds' r' _ q => sd.nx G1 σ' ds' dh1 H1 e1 r' s1 q
theorem simS_par {i j : Nat} (ha : SimE S W ta A) (hb : SimE S W tb B) : SimS S W (tPar i j (tCons ta (tCons tb tNil))) fun Z σ h => A σ h (fun x h1 => B σ h1 (fun y h2 => Z.nx ((σ.set i (some x)).set j (some y)) h2) fun c fs h' => Z.ex c fs σ h') fun c fs h' => Z.ex c fs σ h' := by
  intro G hid σ ds dh H Z Z' rs sm sd h
  have cx := sd.cx rs
  refine ha G hid σ ds dh H _ _ _ rs sm cx h fun G1 H1 v d dh1 e1 s1 r1 h1 => ?_
  refine hb G1 hid σ ds dh1 H1 _ _ _ (rs.mono e1) s1 (cx.mono e1) h1 fun G2 H2 u e dh2 e2 s2 r2 h2 => ?_
  have e12 := e1.trans e2
  exact ⟨v, u, rfl, sd.nx G2 _ _ dh2 H2 e12 (((rs.mono e12).set i (RD.mono e2 _ r1)).set j r2) s2 h2⟩
theorem simS_sub (he : SimE S W tc C) (ho : SimE S W ta A) (hi : SimE S W tb B) : SimS S W (tAsg tc (gSub ta tb (rSet S.K))) fun Z σ h => C σ h (fun v h1 => A σ h1 (fun x h2 => B σ h2 (fun y h3 => setD x y v h3 fun h4 => Z.nx σ h4) fun c fs h' => Z.ex c fs σ h') fun c fs h' => Z.ex c fs σ h') fun c fs h' => Z.ex c fs σ h' := by
  intro G hid σ ds dh H Z Z' rs sm sd h
  have cx := sd.cx rs
  refine he G hid σ ds dh H _ _ _ rs sm cx h fun G1 H1 v d dh1 e1 s1 r1 h1 => ?_
  refine ho G1 hid σ ds dh1 H1 _ _ _ (rs.mono e1) s1 (cx.mono e1) h1 fun G2 H2 u e dh2 e2 s2 r2 h2 => ?_
  have e12 := e1.trans e2
  refine hi G2 hid σ ds dh2 H2 _ _ _ (rs.mono e12) s2 (cx.mono e12) h2 fun G3 H3 w f dh3 e3 s3 r3 h3 => ?_
  have e13 := e12.trans e3
  exact sim_set G3 hid dh3 H3 _ _ u w v e f d s3 (RD.mono e3 _ r2) r3 (RD.mono e3 _ (RD.mono e2 _ r1)) h3 fun H4 dh4 s4 q => sd.nx G3 σ ds dh4 H4 e13 (rs.mono e13) s4 q
theorem simS_exp (ha : SimE S W ta A) : SimS S W (tDrop ta) fun Z σ h => A σ h (fun _ h1 => Z.nx σ h1) fun c fs h' => Z.ex c fs σ h' := by
  intro G hid σ ds dh H Z Z' rs sm sd h
  exact ha G hid σ ds dh H _ _ _ rs sm (sd.cx rs) h fun G1 H1 v d dh1 e1 s1 r1 h1 => sd.nx G1 σ ds dh1 H1 e1 (rs.mono e1) s1 h1
theorem simS_ret (ha : SimE S W ta A) : SimS S W (tRet ta) fun Z σ h => A σ h Z.rt fun c fs h' => Z.ex c fs σ h' := by
  intro G hid σ ds dh H Z Z' rs sm sd h
  exact ha G hid σ ds dh H _ _ _ rs sm (sd.cx rs) h sd.rt
theorem simS_retN : SimS S W tRetN fun Z _ h => Z.rt .non h := fun G hid σ ds dh H Z Z' rs sm sd h => sd.rt.same sm .non h
theorem simS_brk : SimS S W tBreak fun Z σ h => Z.bk σ h := fun G hid σ ds dh H Z Z' rs sm sd h => sd.bk G σ ds dh H (GE.refl _) rs sm h
theorem simS_cnt : SimS S W tCont fun Z σ h => Z.ct σ h := fun G hid σ ds dh H Z Z' rs sm sd h => sd.ct G σ ds dh H (GE.refl _) rs sm h
theorem simS_pas : SimS S W tNext fun Z σ h => Z.nx σ h := fun G hid σ ds dh H Z Z' rs sm sd h => sd.nx G σ ds dh H (GE.refl _) rs sm h
theorem simS_ite {t : TT} {u v : TS} {U V : DS} (hc : SimT S W t (tst C)) (hu : SimS S W u U) (hv : SimS S W v V) : SimS S W (tIfS t u v) fun Z σ h => C σ h (fun x h1 => bD x fun r => if r = true then U Z σ h1 else V Z σ h1) fun c fs h' => Z.ex c fs σ h' := by
  intro G hid σ ds dh H Z Z' rs sm sd h
  refine hc G hid σ ds dh H _ (fun r h1 => if r = true then U Z' ds h1 else V Z' ds h1) _ rs sm (sd.cx rs) h fun G1 H1 c dh1 e1 s1 h1 => ?_
  cases c with
  | true => exact hu G1 hid σ ds dh1 H1 Z Z' (rs.mono e1) s1 (sd.mono e1) h1
  | false => exact hv G1 hid σ ds dh1 H1 Z Z' (rs.mono e1) s1 (sd.mono e1) h1
theorem simS_seq {u v : TS} {U V : DS} (hu : SimS S W u U) (hv : SimS S W v V) : SimS S W (tSeq u v) fun Z σ h => U { Z with nx := V Z } σ h := by
  intro G hid σ ds dh H Z Z' rs sm sd h
  exact hu G hid σ ds dh H _ { Z' with nx := V Z' } rs sm ⟨fun G1 σ1 ds1 dh1 H1 e1 r1 s1 q => hv G1 hid σ1 ds1 dh1 H1 Z Z' r1 s1 (sd.mono e1) q, sd.rt, sd.bk, sd.ct, sd.ex⟩ h
theorem simS_whl {t : TT} {u : TS} {U : DS} (hc : SimT S W t (tst C)) (hu : SimS S W u U) : SimS S W (tWhile t u) fun Z σ h => ∃ V : Nat → DSt → DH → Prop, (∃ m, V m σ h) ∧ ∀ m σ h, V m σ h → C σ h (fun x h1 => bD x fun r =>
      if r = true then U { Z with nx := fun σ' h' => ∃ m', m' < m ∧ V m' σ' h', ct := fun σ' h' => ∃ m', m' < m ∧ V m' σ' h', bk := Z.nx } σ h1 else Z.nx σ h1) fun c fs h' => Z.ex c fs σ h' := by
  intro G hid σ ds dh H Z Z' rs sm sd h
  obtain ⟨V, ⟨m, v0⟩, hV⟩ := h
  refine ⟨fun m σ H => ∃ G1 ds dh, GE G G1 ∧ RS S.K G1 σ ds ∧ Sim S.K G1 dh hid H ∧ V m ds dh, ⟨m, G, ds, dh, GE.refl _, rs, sm, v0⟩, ?_⟩
  rintro m σ1 H1 ⟨G1, ds1, dh1, e1, r1, s1, v1⟩
  have sd1 := sd.mono e1
  refine hc G1 hid σ1 ds1 dh1 H1 _ (fun r h1 => if r = true then U { Z' with nx := fun σ' h' => ∃ m', m' < m ∧ V m' σ' h', ct := fun σ' h' => ∃ m', m' < m ∧ V m' σ' h', bk := Z'.nx } ds1 h1 else Z'.nx ds1 h1) _ r1 s1 (sd1.cx r1) (hV m ds1 dh1 v1) fun G2 H2 c dh2 e2 s2 h2 => ?_
  cases c with
  | true =>
    have nx : SimP S G2 hid (fun σ' H' => ∃ m', m' < m ∧ ∃ G1 ds dh, GE G G1 ∧ RS S.K G1 σ' ds ∧ Sim S.K G1 dh hid H' ∧ V m' ds dh) fun σ' h' => ∃ m', m' < m ∧ V m' σ' h' := fun G3 σ3 ds3 dh3 H3 e3 r3 s3 ⟨m', lt, v⟩ => ⟨m', lt, G3, ds3, dh3, (e1.trans e2).trans e3, r3, s3, v⟩
    exact ⟨_, fun _ _ q => q, hu G2 hid σ1 ds1 dh2 H2 _ { Z' with nx := fun σ' h' => ∃ m', m' < m ∧ V m' σ' h', ct := fun σ' h' => ∃ m', m' < m ∧ V m' σ' h', bk := Z'.nx } (r1.mono e2) s2 ⟨nx, (sd1.mono e2).rt, (sd1.mono e2).nx, nx, (sd1.mono e2).ex⟩ h2⟩
  | false => exact sd1.nx G2 σ1 ds1 dh2 H2 e2 (r1.mono e2) s2 h2
theorem simS_for {is : List Nat} {wi : TI} {g : TG} {u : TS} {I : DI} {T : D → DSt → (DSt → Prop) → Prop} {U : DS} (hi : SimI S W wi I) (hg : SimG S.K is g T) (hu : SimS S W u U) : SimS S W (tFor wi g u) fun Z σ h => I σ h (fun xs ok h1 => forD T ok U Z xs σ h1) fun c fs h' => Z.ex c fs σ h' := by
  intro G hid σ ds dh H Z Z' rs sm sd h
  refine hi G hid σ ds dh H _ _ _ rs sm (sd.cx rs) h fun G1 H1 J xs ok dh1 e1 s1 wk _ h1 => ?_
  refine ⟨fun i n σ2 H2 => n = xs.length - i ∧ i ≤ xs.length ∧ ∃ G2 ds2 dh2, GE G1 G2 ∧ RS S.K G2 σ2 ds2 ∧ Sim S.K G2 dh2 hid H2 ∧ forD T ok U Z' (xs.drop i) ds2 dh2, ⟨xs.length, rfl, Nat.zero_le _, G1, ds, dh1, GE.refl _, rs.mono e1, s1, h1⟩, ?_⟩
  rintro i n σ2 H2 ⟨rfl, hi', G2, ds2, dh2, e2, r2, s2, h2⟩
  have sd2 := sd.mono (e1.trans e2)
  by_cases hlt : i < xs.length
  · right
    rw [List.drop_eq_getElem_cons hlt] at h2
    simp only [forD] at h2
    obtain ⟨o, h2⟩ := h2
    obtain ⟨_, w⟩ := wk G2 _ dh2 H2 e2 s2 o
    obtain ⟨wg, wy⟩ := w i hlt
    refine ⟨wg, fun σ3 H3 => ∃ G3 ds3 dh3, GE G1 G3 ∧ RS S.K G3 σ3 ds3 ∧ Sim S.K G3 dh3 hid H3 ∧ forD T ok U Z' (xs.drop (i + 1)) ds3 dh3, fun σ3 H3 q => ⟨xs.length - (i + 1), by omega, rfl, hlt, q⟩, fun x H3 y => ?_⟩
    obtain ⟨G3, d, e3, s3, ed, rd⟩ := wy x H3 y
    have ed' : xs[i] = d := by rw [List.getElem?_eq_getElem hlt] at ed; exact Option.some.inj ed
    rw [ed'] at h2
    refine hg G3 x d _ _ _ dh2 H3 _ _ (r2.mono e3) s3 rd h2 fun σ4 ds4 r4 o4 h4 => ?_
    have sd3 := sd2.mono e3
    have nx : SimP S G3 hid (fun σ3 H3 => ∃ G3 ds3 dh3, GE G1 G3 ∧ RS S.K G3 σ3 ds3 ∧ Sim S.K G3 dh3 hid H3 ∧ forD T ok U Z' (xs.drop (i + 1)) ds3 dh3) (forD T ok U Z' (xs.drop (i + 1))) := fun G5 σ5 ds5 dh5 H5 e5 r5 s5 q => ⟨G5, ds5, dh5, (e2.trans e3).trans e5, r5, s5, q⟩
    exact hu G3 hid σ4 ds4 dh2 H3 _ { Z' with nx := forD T ok U Z' (xs.drop (i + 1)), ct := forD T ok U Z' (xs.drop (i + 1)), bk := Z'.nx } r4 s3 ⟨nx, sd3.rt, sd3.nx, nx, sd3.ex⟩ h4
  · left
    have ei : i = xs.length := by omega
    subst ei
    rw [List.drop_length] at h2
    simp only [forD] at h2
    exact ⟨(wk G2 _ dh2 H2 e2 s2 h2.1).1, sd2.nx G2 σ2 ds2 dh2 H2 (GE.refl _) r2 s2 h2.2⟩
/-- a slot is frozen ahead of statements -/
theorem simSs_frz {i : Nat} {u : TS} {U : DS} (hu : SimS S W u U) : SimS S W (tFrzV i u) fun Z σ h => match σ[i]? with
    | some (some d) => frzD d h fun d' h' => U Z (σ.set i (some d')) h'
    | _ => False := by
  intro G hid σ ds dh H Z Z' rs sm cd h
  split at h
  · rename_i d hd
    obtain ⟨v, e1, r1⟩ := rs.2 i d hd
    have put : ∀ G' d', GE G G' → RD S.K G' v d' → RS S.K G' σ (ds.set i (some d')) := fun G' d' e r => by
      refine ⟨by rw [List.length_set]; exact rs.1, fun j y hy => ?_⟩
      by_cases hj : j = i
      · subst hj
        have hl : j < ds.length := by
          rcases Nat.lt_or_ge j ds.length with z | z
          · exact z
          · rw [List.getElem?_eq_none (by rw [List.length_set]; exact z)] at hy; cases hy
        rw [List.getElem?_set_self hl] at hy
        cases hy
        exact ⟨v, e1, r⟩
      · rw [List.getElem?_set_ne (fun z => hj z.symm)] at hy
        obtain ⟨w, e2, r2⟩ := rs.2 j y hy
        exact ⟨w, e2, RD.mono e _ r2⟩
    unfold frzD at h
    split at h
    · rename_i p
      cases r1
      split at h
      · rename_i xs hx
        obtain ⟨G2, e2, s2, r2⟩ := sm.freeze hx delD_sub delD_none
        exact .inl (hu G2 hid σ _ _ H Z Z' (put G2 _ e2 r2) s2 (cd.mono e2) h)
      · rename_i xs hx
        obtain ⟨u, hu', mu, f⟩ := sm.freezeK hx delD_sub delD_none
        refine .inr ⟨p, u, e1, hu', mu, fun o => ?_⟩
        obtain ⟨G2, e2, s2, r2⟩ := f o
        exact hu G2 hid σ _ _ _ Z Z' (put G2 _ e2 r2) s2 (cd.mono e2) h
      · rename_i xs hx
        obtain ⟨u, hu', mu, f⟩ := sm.freezeT hx delD_sub delD_none
        refine .inr ⟨p, u, e1, hu', mu, fun o => ?_⟩
        obtain ⟨G2, e2, s2, r2⟩ := f o
        exact hu G2 hid σ _ _ _ Z Z' (put G2 _ e2 r2) s2 (cd.mono e2) h
      · exact .inl (hu G hid σ _ _ H Z Z' (put G _ (GE.refl G) (.ref p)) sm cd h)
    · exact .inl (hu G hid σ _ _ H Z Z' (put G _ (GE.refl G) r1) sm cd h)
  · exact h.elim
end
end Deep

/-! Dp8: the code fits the text; what the text does then. -/
namespace Deep
open PySem L2 PyProof.Rows
/-- where a text stands: its names by slot, its scope, the names that it stores, the built-ins, constants that it may ask -/
structure Ck where
  N : List Str
  sc : Scope
  wr : List Str
  bl : List Str
  gl : List (Str × D)
  fl : List String
def visB (sc : Scope) (x : Str) : Bool := match sc.names.lookup x with
  | some .local => true
  | some .cell => true
  | some .free => true
  | _ => false
def locB (sc : Scope) (x : Str) : Bool := match sc.names.lookup x with
  | some .local => true
  | some .cell => true
  | _ => false
def glbB (sc : Scope) (x : Str) : Bool := match sc.names.lookup x with
  | some .globalImplicit => true
  | _ => false
def dbgB (x : Str) : Bool := (x == ("__debug__" : Str)) == false && (x == ("__classdict__" : Str)) == false && (x == ("__name__" : Str)) == false
theorem visB_ok {sc : Scope} {x : Str} (h : visB sc x = true) : Vis sc x := by
  unfold visB at h
  split at h <;> first
    | (rename_i e; exact .inl e)
    | (rename_i e; exact .inr (.inl e))
    | (rename_i e; exact .inr (.inr e))
    | cases h
theorem locB_ok {sc : Scope} {x : Str} (h : locB sc x = true) : Loc sc x := by
  unfold locB at h
  split at h <;> first
    | (rename_i e; exact .inl e)
    | (rename_i e; exact .inr e)
    | cases h
theorem glbB_ok {sc : Scope} {x : Str} (h : glbB sc x = true) : sc.names.lookup x = some .globalImplicit := by
  unfold glbB at h
  split at h
  · assumption
  · cases h
theorem dbgB_ok {x : Str} (h : dbgB x = true) : (x == ("__debug__" : Str)) = false ∧ (x == ("__classdict__" : Str)) = false ∧ x ≠ "__name__" := by
  unfold dbgB at h
  simp only [Bool.and_eq_true, beq_iff_eq] at h
  exact ⟨h.1.1, h.1.2, beq_eq_false_iff_ne.mp h.2⟩
def constB : D → Const → Bool
  | .int i, .int j => decide (i = j)
  | .str i, .str j => decide (i = j)
  | .bl i, .bool j => i == j
  | .non, .none => true
  | _, _ => false
mutual
def eqbD : D → D → Bool
  | .int i, .int j => decide (i = j)
  | .str i, .str j => decide (i = j)
  | .bl i, .bl j => i == j
  | .non, .non => true
  | .tup xs, .tup ys => eqbDs xs ys
  | _, _ => false
def eqbDs : List D → List D → Bool
  | [], [] => true
  | x :: xs, y :: ys => eqbD x y && eqbDs xs ys
  | _, _ => false
end
mutual
theorem eqbD_ok : ∀ {a b : D}, eqbD a b = true → a = b
  | .int i, b, h => by cases b <;> first | (cases h; done) | (rw [of_decide_eq_true h])
  | .str i, b, h => by cases b <;> first | (cases h; done) | (rw [of_decide_eq_true h])
  | .bl i, b, h => by cases b <;> first | (cases h; done) | (rw [beq_iff_eq.mp h])
  | .non, b, h => by cases b <;> first | (cases h; done) | rfl
  | .tup xs, b, h => by cases b <;> first | (cases h; done) | (rw [eqbDs_ok h])
  | .lst _, b, h => by cases h
  | .dk _ _, b, h => by cases h
  | .dt _ _, b, h => by cases h
  | .ref _, b, h => by cases h
  | .box _, b, h => by cases h
  | .ty _, b, h => by cases h
  | .scr _, b, h => by cases h
theorem eqbDs_ok : ∀ {a b : List D}, eqbDs a b = true → a = b
  | [], b, h => by cases b <;> first | (cases h; done) | rfl
  | x :: xs, b, h => by
    cases b with
    | nil => cases h
    | cons y ys =>
      have h' : (eqbD x y && eqbDs xs ys) = true := h
      rw [Bool.and_eq_true] at h'
      rw [eqbD_ok h'.1, eqbDs_ok h'.2]
end
def fineB : Expr → Bool
  | .Starred .. => false
  | .Slice .. => false
  | .Set .. => false
  | .Call .. => true
  | _ => true
def plainT : Expr → Bool
  | .UnaryOp .. => false
  | .BoolOp .. => false
  | .IfExp .. => false
  | .Compare .. => false
  | _ => true
def nlcB : Expr → Bool
  | .ListComp .. => false
  | .SetComp .. => false
  | .DictComp .. => false
  | _ => true
def noNmB : Expr → Bool
  | .Name .. => false
  | _ => true
theorem star_ok {e : Expr} {es : List Expr} {env : Env} (h : fineB e = true) : starEach (e :: es) env = (false, eval e env) :: starEach es env := by
  cases e <;> first
    | rfl
    | cases h
theorem ix_ok {e : Expr} (h : fineB e = true) : PlainIx e := by
  cases e <;> first
    | cases h; done
    | exact fun _ _ => rfl
theorem mark_ok {e : Expr} {op : CmpOp} (h : fineB e = true) : behindInMarks op e = false := by
  cases e <;> first
    | cases h; done
    | rfl
theorem fold_ok {e : Expr} {env : Env} (h : fineB e = true) : ∀ x, foldedSetIterable e env x = pure x := by
  intro x
  cases e <;> first
    | cases h; done
    | rfl
theorem swap_ok {e : Expr} {tg : Option Expr} {l : Nat} {env : Env} (h : nlcB e = true) : swapsWith e tg l env = pure false := by
  cases e <;> first
    | cases h; done
    | rfl
theorem swap_tg {e tg : Expr} {l : Nat} {env : Env} (h : noNmB tg = true) : swapsWith e (some tg) l env = pure false := by
  cases e <;> first
    | rfl
    | (cases tg <;> first
        | cases h; done
        | rfl)
theorem isTrue_ok {e : Expr} {env : Env} (h : plainT e = true) : ∀ whole, isTrue e env whole = (do let v ← whole; standAt e.pos; holding [v] (truthy v)) := by
  intro w
  cases e <;> first
    | cases h; done
    | rfl
def baseB : Expr → Bool
  | .Call (.Name id _) [] [] _ => id != "super"
  | _ => true
theorem base_ok {o : Expr} {m : Str} {env : Env} (h : baseB o = true) : attributeBase o m env (eval o env) = eval o env := by
  unfold attributeBase
  split
  · rename_i id _ _
    have hs : (id != "super") = true := h
    simp only [hs, Bool.true_or]
    rfl
  · rfl
theorem plain_any {es : List Expr} {pos : Pos} {env : Env} (h : es.all fineB = true) : (backTo pos (starEach es env)).any (·.1) = false := by
  induction es with
  | nil => rfl
  | cons e es ih =>
    simp only [List.all_cons, Bool.and_eq_true] at h
    rw [star_ok h.1]
    have := ih h.2
    simpa [backTo] using this
/-- the swapped store is none -/
def localsB (sc : Scope) (ts : List Expr) : List Str := ts.filterMap fun
  | .Name id pos => if sc.names.lookup id == some .local && pos.line == ((ts.head?.map (·.pos.line)).getD 0) then some id else none
  | _ => none
def starV : Expr → Bool
  | .Starred .. => true
  | _ => false
def noSwapB (sc : Scope) (ts vs : List Expr) : Bool :=
  (!(ts.length == 2 || ts.length == 3) || vs.length != ts.length) || ((localsB sc ts).length != ts.length || (localsB sc ts).eraseDups.length != (localsB sc ts).length) || vs.all (foldedForSure 8)
theorem noSwap_ok {ts vs : List Expr} {k k2 : Nat} {p p2 : Pos} {env : Env} (hk : env.scope.kind = .function) (hs : vs.any starV = false) (h : noSwapB env.scope ts vs = true) : swappedStores [.Tuple ts k p] (.Tuple vs k2 p2) env = pure none := by
  have hb : env.blockKind = .function := by unfold Env.blockKind; rw [hk]; rfl
  unfold swappedStores
  simp only [hb]
  unfold noSwapB at h
  simp only [Bool.or_eq_true] at h
  split
  · rfl
  · rename_i n1
    split
    · rfl
    · split
      · rfl
      · rename_i n2
        have n2' : ¬ ((localsB env.scope ts).length != ts.length || (localsB env.scope ts).eraseDups.length != (localsB env.scope ts).length) = true := n2
        split
        · rfl
        · rename_i n3
          exfalso
          simp only [Bool.or_eq_true, not_or] at n1 n2'
          rcases h with (h | h) | h
          · rcases h with h | h
            · exact n1.1.1 h
            · exact n1.1.2 h
          · rcases h with h | h
            · exact n2'.1 h
            · exact n2'.2 h
          · exact n3 h
def parB (sc : Scope) (px py : Pos) (x y : Str) (a b : Expr) : Bool :=
  sc.names.lookup x == some .local && sc.names.lookup y == some .local && px.line == py.line && (x == y) == false && [a, b].all (foldedForSure 8) == false && [a, b].all (constantsAlone 8) == false
theorem par_ok {x y : Str} {px py pt p2 : Pos} {kt k2 : Nat} {a b : Expr} {env : Env} (hk : env.scope.kind = .function) (ha : fineB a = true) (hb : fineB b = true) (h : parB env.scope px py x y a b = true) :
    swappedStores [.Tuple [.Name x px, .Name y py] kt pt] (.Tuple [a, b] k2 p2) env = pure (some [x, y]) := by
  have hbk : env.blockKind = .function := by unfold Env.blockKind; rw [hk]; rfl
  unfold parB at h
  simp only [Bool.and_eq_true, beq_iff_eq] at h
  obtain ⟨⟨⟨⟨⟨h1, h2⟩, h3⟩, h4⟩, h5⟩, h6⟩ := h
  have k1 : env.kindOf x = some .local := h1
  have k2 : env.kindOf y = some .local := h2
  have s1 : ([a, b].any fun | .Starred .. => true | _ => false) = false := by
    cases a <;> first
      | cases ha; done
      | (cases b <;> first
          | cases hb; done
          | rfl)
  have e1 : (x == y) = false := h4
  have e2 : (y == x) = false := by
    rw [beq_eq_false_iff_ne] at e1 ⊢
    exact fun e => e1 e.symm
  unfold swappedStores
  simp only [hbk]
  split
  · rename_i n
    exact absurd n (by simp)
  · split
    · rename_i n
      exact absurd (s1.symm.trans n) (by decide)
    · split
      · rename_i n
        exfalso
        simp [k1, k2, Expr.pos, h3, List.eraseDups, List.eraseDupsBy, List.eraseDupsBy.loop, e1, e2] at n
      · split
        · rename_i n
          rw [h5] at n
          cases n
        · split
          · rename_i n
            rw [h6] at n
            cases n
          · simp [k1, k2, Expr.pos, h3]
/-! ### the text fits -/
def typN (n : String) : Bool := n == "int" || n == "str" || n == "list" || n == "tuple" || n == "bool" || n == "dict"
theorem typN_ok {n : String} (h : typN n = true) : bootBuiltins (n : Str) = some (.type n) := by
  unfold typN at h
  simp only [Bool.or_eq_true, beq_iff_eq] at h
  rcases h with ((((rfl | rfl) | rfl) | rfl) | rfl) | rfl <;> decide +kernel
def mtN : Mt → Nat
  | .append => 1
  | .extend => 1
  | .pop0 => 0
  | .pop1 => 1
  | .clear => 0
mutual
def noIte : Ex → Bool
  | .ite _ _ _ => false
  | .frz _ => false
  | .not a => noIte a
  | .and a es => noIte a && noItes es
  | .or a es => noIte a && noItes es
  | _ => true
def noItes : Exs → Bool
  | .nil => true
  | .cons e es => noIte e && noItes es
end
def Ck.blk (C : Ck) (scope : Scope) (own : List (Str × Nat)) : Ck := { C with sc := relS scope C.sc, wr := own.map (·.1) }
mutual
def chkN : Tn → Ck → Expr → Bool
  | .nm i, C, e => match e with
    | .Name x _ => decide (C.N[i]? = some x) && locB C.sc x && decide (x ∈ C.wr)
    | _ => false
  | .tp ts, C, e => match e with
    | .Tuple es _ _ => chkNs ts C es
    | _ => false
def chkNs : Tns → Ck → List Expr → Bool
  | .nil, _, es => es.isEmpty
  | .cons t ts, C, es => match es with
    | x :: xs => chkN t C x && chkNs ts C xs
    | [] => false
end
def glN (C : Ck) (x : Str) : Bool := glbB C.sc x && dbgB x
def blN (C : Ck) (x : Str) : Bool := glbB C.sc x && dbgB x && decide (x ∈ C.bl)
def ownB (scope : Scope) (own : List (Str × Nat)) : Bool := own.all fun p => locB scope p.1
mutual
def chkE : Ex → Ck → Expr → Bool
  | .var i, C, e => match e with
    | .Name x _ => decide (C.N[i]? = some x) && visB C.sc x && dbgB x
    | _ => false
  | .cst d, _, e => match e with
    | .Constant k _ _ => constB d k
    | _ => false
  | .glb y d, C, e => match e with
    | .Name x _ => decide (x = y) && glN C x && C.gl.any fun p => decide (p.1 = x) && eqbD p.2 d
    | _ => false
  | .typ n, C, e => match e with
    | .Name x _ => decide (x = (n : Str)) && typN n && blN C x
    | _ => false
  | .op o _ a b, C, e => match e with
    | .BinOp l op r _ => op == opS o && (chkE a C l && chkE b C r)
    | _ => false
  | .neg a, C, e => match e with
    | .UnaryOp .USub x _ => chkE a C x
    | _ => false
  | .cmp c a b, C, e => match e with
    | .Compare l [op] [r] _ => op == cpS c && (fineB r && (chkE a C l && chkE b C r))
    | _ => false
  | .chn c c' a b d, C, e => match e with
    | .Compare l [op, op'] [r, s] _ => op == cpS c && op' == cpS c' && (fineB s && (chkE a C l && (chkE b C r && chkE d C s)))
    | _ => false
  | .and a es, C, e => match e with
    | .BoolOp .And (x :: xs) _ => chkE a C x && chkA es C xs
    | _ => false
  | .or a es, C, e => match e with
    | .BoolOp .Or (x :: xs) _ => chkE a C x && chkA es C xs
    | _ => false
  | .not a, C, e => match e with
    | .UnaryOp .Not x _ => chkE a C x
    | _ => false
  | .ite c a b, C, e => match e with
    | .IfExp t x y _ => noIte c && (chkE c C t && (chkE a C x && chkE b C y))
    | _ => false
  | .tup es, C, e => match e with
    | .Tuple xs _ _ => chkA es C xs
    | _ => false
  | .lst _ es, C, e => match e with
    | .List xs _ => chkA es C xs
    | _ => false
  | .ix a b, C, e => match e with
    | .Subscript x y _ => fineB y && (chkE a C x && chkE b C y)
    | _ => false
  | .sl _ a lo hi, C, e => match e with
    | .Subscript x (.Slice l h none _) _ => chkE a C x && (chkO lo C l && chkO hi C h)
    | _ => false
  | .call f es, C, e => match e with
    | .Call (.Name x _) xs [] _ => decide (x = (f : Str)) && decide (f ∈ C.fl) && glN C x && (chkA es C xs)
    | _ => false
  | .bi f _ es, C, e => match e with
    | .Call (.Name x _) (y :: ys) [] _ => decide (x = biS f) && blN C x && (chkA es C (y :: ys))
    | _ => false
  | .mt f o es, C, e => match e with
    | .Call (.Attribute y m ap) xs [] cp => decide (m = mtS f) && baseB y && (ap.endLine == cp.line) && xs.length == mtN f && (chkE o C y && chkA es C xs)
    | _ => false
  | .tm f _ o a, C, e => match e with
    | .Call (.Attribute y m ap) [x] [] cp => decide (m = tmS f) && baseB y && (ap.endLine == cp.line) && fineB x && (chkE o C y && chkE a C x)
    | _ => false
  | .ddsp k v, C, e => match e with
    | .Dict [some x] [y] _ => chkE k C x && chkE v C y
    | _ => false
  | .mxd a d, C, e => match e with
    | .Call (.Name x _) [y] [⟨some k, z, _⟩] _ => decide (x = "max") && decide (k = "default") && blN C x && fineB y && (chkE a C y && chkE d C z)
    | _ => false
  | .lrng _ a, C, e => match e with
    | .Call (.Name x _) [.Call (.Name y _) [z] [] _] [] _ => decide (x = "list") && decide (y = "range") && blN C x && blN C y && fineB z && chkE a C z
    | _ => false
  | .dnew _, _, e => match e with
    | .Dict [] [] _ => true
    | _ => false
  | .dget o k d, C, e => match e with
    | .Call (.Attribute y m ap) [x, z] [] cp => decide (m = "get") && baseB y && (ap.endLine == cp.line) && fineB x && fineB z && (chkE o C y && (chkE k C x && chkE d C z))
    | _ => false
  | .frz a, C, e => chkE a C e
  | .lc _ own it tg c el, C, e => match e with
    | .ListComp elt [⟨t, iter, ifs, k⟩] scope _ => (k == 0) && fineB iter && blkC C.N C.sc scope own && ownB scope own && (tnIx tg).all (fun i => decide (i ∈ own.map (·.2))) && chkN tg (C.blk scope own) t &&
        (chkI it C t iter && (chkC c (C.blk scope own) ifs && chkE el (C.blk scope own) elt))
    | _ => false
def chkA : Exs → Ck → List Expr → Bool
  | .nil, _, es => es.isEmpty
  | .cons a r, C, es => match es with
    | x :: xs => fineB x && (chkE a C x && chkA r C xs)
    | [] => false
def chkO : OE → Ck → Option Expr → Bool
  | .non, _, e => e.isNone
  | .som a, C, e => match e with
    | some x => chkE a C x
    | none => false
def chkC : OE → Ck → List Expr → Bool
  | .non, _, es => es.isEmpty
  | .som a, C, es => match es with
    | [x] => noIte a && chkE a C x
    | _ => false
def chkI : Iw → Ck → Expr → Expr → Bool
  | .ex a, C, _, e => chkE a C e
  | .rng es, C, _, e => match e with
    | .Call (.Name x _) xs [] _ => decide (x = "range") && blN C x && chkA es C xs && (xs.length == 1 || xs.length == 2 || xs.length == 3)
    | _ => false
  | .enm a, C, t, e => match t, e with
    | .Tuple _ _ _, .Call (.Name x _) [y] [] _ => decide (x = "enumerate") && blN C x && (fineB y && chkE a C y)
    | _, _ => false
  | .zip a b, C, t, e => match t, e with
    | .Tuple _ _ _, .Call (.Name x _) [y, z] [] _ => decide (x = "zip") && blN C x && (fineB y && (fineB z && (chkE a C y && chkE b C z)))
    | _, _ => false
  | .rev a, C, _, e => match e with
    | .Call (.Name x _) [y] [] _ => decide (x = "reversed") && blN C x && (fineB y && chkE a C y)
    | _ => false
end
def fastB (sc : Scope) (e : Expr) (tg : Expr) : Bool := match e, tg with
  | .ListComp _ _ scope pos, .Name y py => sc.names.lookup y == some .local && py.line == pos.line && (scope.names.any fun (n, k) => n == y && (k == .local || k == .cell)) == false
  | _, _ => false
def lcTop : Ex → Bool
  | .lc _ _ _ _ _ _ => true
  | _ => false
mutual
def chkS : Sm → Ck → Stmt → Bool
  | .asg t a, C, st => match st with
    | .Assign [tg] e _ => chkN t C tg && (chkE a C e && (match tg with
      | .Name _ _ => nlcB e || (lcTop a && fastB C.sc e tg)
      | .Tuple ts _ _ => (match e with
        | .Tuple vs _ _ => noSwapB C.sc ts vs && vs.any starV == false
        | _ => true)
      | _ => false))
    | _ => false
  | .par i j a b, C, st => match st with
    | .Assign [.Tuple [.Name x px, .Name y py] _ _] (.Tuple [e, f] _ _) _ => decide (C.N[i]? = some x) && decide (C.N[j]? = some y) && decide (i ≠ j) && parB C.sc px py x y e f && fineB e && fineB f && (chkE a C e && chkE b C f)
    | _ => false
  | .sub o i a, C, st => match st with
    | .Assign [.Subscript p q _] e _ => fineB q && (chkE o C p && (chkE i C q && chkE a C e))
    | _ => false
  | .exp a, C, st => match st with
    | .Expr e _ => nlcB e && chkE a C e
    | _ => false
  | .ret a, C, st => match st with
    | .Return (some e) _ => chkE a C e
    | _ => false
  | .retN, _, st => match st with
    | .Return none _ => true
    | _ => false
  | .ite c a b, C, st => match st with
    | .If e x y _ => noIte c && (chkE c C e && (chkSs a C x && chkSs b C y))
    | _ => false
  | .whl c b, C, st => match st with
    | .While e x [] _ => noIte c && (chkE c C e && chkSs b C x)
    | _ => false
  | .for t it b, C, st => match st with
    | .For tg iter x [] _ => fineB iter && chkN t C tg && (chkI it C tg iter && chkSs b C x)
    | _ => false
  | .brk, _, st => match st with
    | .Break _ => true
    | _ => false
  | .cnt, _, st => match st with
    | .Continue _ => true
    | _ => false
  | .pas, _, st => match st with
    | .Pass _ => true
    | _ => false
def chkSs : Sms → Ck → List Stmt → Bool
  | .nil, _, sts => sts.isEmpty
  | .frz _ r, C, sts => chkSs r C sts
  | .cons s r, C, sts => match sts with
    | x :: xs => chkS s C x && chkSs r C xs
    | [] => false
end
end Deep

/-! Dg: promises of defs where no repr is going on around (wanted by repr itself). -/
namespace Deep
open PySem PySem.Spec PyProof.Rows L2
section
variable {prg : Program} {wo : World} {K : PySem.W.Frag} {mg : Str → Option Value} {bs : Heap} {cx : CXT} {k : Nat} {f : Addr} {fd : FuncData} {ps : List Str} {sp : Sp}
/-- as the hand layer's promise, but that the stack bears no guard -/
structure FnG (prg : Program) (wo : World) (K : PySem.W.Frag) (mg : Str → Option Value) (bs : Heap) (cx : CXT) (k : Nat) (f : Addr) (fd : FuncData) (ps : List Str) (sp : Sp) : Prop where
  len : ∀ vs H Q E, sp vs H Q E → vs.length = ps.length
  run : ∀ (A : Around) (out : List Env) (s : Shared) (H : Hp) (ar : Args) (us : List Value) (vs : List V) (Q : VK) (E : XK), A.guards = some [] → Room k A → Env0 prg wo K mg bs A out s H → BindsTo s fd ar (ps.zip us) → Vals vs us → sp vs H Q E →
    codeAny (model prg wo) A (.call (.ref f) ar) (CR cx out prg wo H s Q E) s
theorem FnG.never (hsp : ∀ vs H Q E, ¬ sp vs H Q E) : FnG prg wo K mg bs cx k f fd ps sp := ⟨fun vs H Q E h => (hsp _ _ _ _ h).elim, fun A out s H ar us vs Q E _ _ _ _ _ h => (hsp _ _ _ _ h).elim⟩
/-- a def by its body -/
theorem fn_ofG {x qual : Str} {prm : Arguments} {body : List Stmt} {scope : Scope} {N : List Str} (F : FunD K x qual prm body scope [] [] f fd) (S : FnScope N ps scope) (len : ∀ vs H Q E, sp vs H Q E → vs.length = ps.length)
    (hb : ∀ (cv : Value) (A : Around) (out : List Env) (s : Shared) (H : Hp) (vs : List V) (Q : VK) (E : XK), A.guards = some [] → Room k (A.deeper (envOfC qual scope s.heap.objs.size f cv)) → sp vs H Q E →
      ∃ t, PSs (cxOf cx prg wo K mg bs N qual scope f cv A out s H E) body t ∧ t { nx := fun _ H' => Q .non H', rt := Q } (start N vs) H) : FnG prg wo K mg bs cx (k + 1) f fd ps sp := by
  obtain ⟨oc, od, dV, kV, doc, pm, an, cv, ct, osl, rfl, lk, hcd, _, _⟩ := F.ex
  refine ⟨len, fun A out s H ar us vs Q E hg hr e0 bd rel hs => ?_⟩
  have gin : K.In s.heap := e0.mod.kin.keeps fun b o z => (e0.bs b o z).1
  have nl : s.heap.NoLimit := e0.mod.nolimit.keeps fun b o z => (e0.bs b o z).1
  refine codeAny_call_function hr.depth (gin _ _ lk) rfl S.co S.gen rfl (PySem.W.codeRec_of gin hcd) (bd _ _ _ _ ?_)
  refine wpAny_newFunctionEnv_cells S.kind (fun y hy => ?_) fun ev he s1 xc => ?_
  · obtain ⟨n, v⟩ := y
    rcases S.par n (List.of_mem_zip hy).1 with q | q
    · exact .inl q
    · exact .inr ⟨q, PySem.W.cellsFrom_some _ _ _ (.inl q)⟩
  · subst he
    refine ⟨nl.keeps xc.toInCall.keep, codeAny_func ?_⟩
    obtain ⟨t, ht, hq⟩ := hb cv A out s H vs Q E hg (hr.deeper _) hs
    have I0 : Inv (cxOf cx prg wo K mg bs N qual scope f cv A out s H E) [] (start N vs) H s1 := inv_start S hr.hd e0 (len _ _ _ _ hs) rel xc
    refine wpAny_mono (ht.run [] s1 (start N vs) H _ I0 hq) (fun fl s' hend => ?_) fun _ _ z => z
    have back : ∀ {σ' : L2.St} {H' : Hp} {v : V} {u : Value}, Inv (cxOf cx prg wo K mg bs N qual scope f cv A out s H E) [] σ' H' s' → RelV v u → Q v H' → CE out prg wo H s Q u s' :=
      fun {σ' H' v u} J rv q => ⟨v, H', J.os, J.bare, J.base, J.hok, rv, q⟩
    cases fl with
    | ret u =>
      obtain ⟨v, σ', H', J, rv, q⟩ := hend
      exact back J rv q
    | next =>
      obtain ⟨σ', H', J, q⟩ := hend
      exact back (v := V.non) (u := Value.none) J rfl q
    | brk => exact (hend.choose_spec.choose_spec.2 : False).elim
    | cont => exact (hend.choose_spec.choose_spec.2 : False).elim
end
section
variable {X : Cx} {cx : CXT} {k : Nat} {f : Addr} {fd : FuncData} {ps : List Str} {sp : Sp} {E : L2.St → XK} {x : Str} {p pos : Pos} {e : Expr} {es : List Expr} {t : TA}
theorem run_fnG {pins : List (Addr × Obj)} {σ : L2.St} {H : Hp} {s : Shared} {Q : VK} {us : List Value} {vs : List V} (F : FnG X.prog X.w X.K X.mg X.base cx k f fd ps sp) (hg : X.A.guards = some []) (hr : Room k X.A) (bd : Binds X.K fd ps []) (hx : PassesAt cx X σ (E σ))
    (I : Inv X pins σ H s) (rel : Vals vs us) (h : sp vs H Q (E σ)) : wpAny (model X.prog X.w) X.A (call (.ref f) us) (EP X pins σ Q) X.xe s := by
  have ll : us.length = ps.length := by rw [← rel.length]; exact F.len _ _ _ _ h
  have b0 := bd s us I.kIn (by rw [List.append_nil]; exact ll)
  rw [List.append_nil] at b0
  refine wpAny_call (codeAny_mono (F.run X.A X.stack s H ⟨us, []⟩ us vs Q (E σ) hg hr I.env0 b0 rel h) fun res s' hres => ?_)
  match res, hres with
  | .error er, hres => exact hx pins H s er s' I hres
  | .ok (.ret u), hres => exact I.after hres
  | .ok .next, hres => exact False.elim hres
  | .ok .brk, hres => exact False.elim hres
  | .ok .cont, hres => exact False.elim hres
theorem pe_callG (F : FnG X.prog X.w X.K X.mg X.base cx k f fd ps sp) (gd : X.A.guards = some []) (hr : Room k X.A) (hg : Gl X x) (hm : X.mg x = some (.ref f)) (hk : PySem.W.keepIn X.K (.ref f) = true) (hb : Binds X.K fd ps []) (hx : ∀ σ, PassesAt cx X σ (E σ))
    (ha : PA X (e :: es) t) (hdb : (x == ("__debug__" : Str)) = false) (he : starEach (e :: es) X.env = (false, eval e X.env) :: starEach es X.env) (hpl : (backTo pos (starEach es X.env)).any (·.1) = false) :
    PE X (.Call (.Name x p) (e :: es) [] pos) (tCallS sp E t) := by
  refine ⟨fun pins s σ H Q I h => wpAny_Call_Name_kw (ld_glob I hg hm ?_ hdb)⟩
  refine PySem.W.callWith_K (h₀ := X.base) I.ok.mod.kin hk (thn (ha.run pos pins s σ H _ I h) fun us s1 z => ?_) he hpl
  obtain ⟨vs, H1, I1, rl, q⟩ := z
  exact ⟨I1.kIn, run_fnG F gd hr hb (hx σ) I1 rl q⟩
theorem pe_callG0 (F : FnG X.prog X.w X.K X.mg X.base cx k f fd ps sp) (gd : X.A.guards = some []) (hr : Room k X.A) (hg : Gl X x) (hm : X.mg x = some (.ref f)) (hk : PySem.W.keepIn X.K (.ref f) = true) (hb : Binds X.K fd ps [])
    (hx : ∀ σ, PassesAt cx X σ (E σ)) (hdb : (x == ("__debug__" : Str)) = false) : PE X (.Call (.Name x p) [] [] pos) (tCallS sp E tNil) :=
  ⟨fun pins s σ H Q I hw => wpAny_Call_Name_kw (ld_glob I hg hm (PySem.W.callWith_K0 I.kIn hk (run_fnG (us := []) F gd hr hb (hx σ) I .nil hw)) hdb)⟩
end
/-- the call of the law, its script told to the object -/
theorem law_callG {prg : Program} {wo : World} {K : PySem.W.Frag} {mg mb : Str → Option Value} {cx : CXT} {k : Nat} {fa a : Addr} {fd : FuncData} {x : Str} {sp : Sp} {st : Shared} {vs : List Value} {ns : List Int}
    (gin : K.In st.heap) (gns : st.heap.Ns mainGlobals mg) (bns : st.heap.Ns builtinsNs mb) (bb : ∀ x : Str, x ≠ "__name__" → mb x = bootBuiltins x) (nl : st.heap.NoLimit) (ng : st.gens = #[])
    (ha : st.heap.get? a = some { cls := .type "list", data := .seq vs.toArray }) (hi : IntsAre vs ns) (hz : ns.length ≤ sizeLine) (hr : Room k callerA)
    (F : ∀ bs : Heap, K.In bs → bs.Ns mainGlobals mg → FnG prg wo K mg bs cx k fa fd [x] sp) (bd : ∀ (s : Shared) (u : Value), BindsTo s fd ⟨[u], []⟩ [(x, u)])
    (hsp : ∀ H : Hp, SqL K H a (ns.map V.int) → sp [.ref a] H (fun v _ => v = .bl true) fun _ _ _ => False) (hcx : ∀ H e s', cx [] H st (fun _ _ _ => False) e s' → False) :
    codeAny (model prg wo) callerA (.call (.ref fa) ⟨[.ref a], []⟩) (fun r s' => r = .ok (.ret (.bool true)) ∧ OldK st.heap s'.heap ∧ s'.os = st.os ∧ AllBare s'.gens) st := by
  have rel := vals_ints hi
  have ln := hi.length
  let scr : Obj := { cls := .type "list", data := .seq vs.toArray }
  -- what is tracked: the script alone, and only where it is none of the module's objects
  let trk : Hp := fun b => if b = a ∧ K.lookup a = none then some (.frz scr (.lst (ns.map V.int))) else none
  have trk_at : ∀ {b : Addr} {u : HO}, trk b = some u → b = a ∧ K.lookup a = none ∧ u = .frz scr (.lst (ns.map V.int)) := fun {b u} z => by
    by_cases q : b = a ∧ K.lookup a = none
    · have z2 : some (HO.frz scr (.lst (ns.map V.int))) = some u := (if_pos q).symm.trans z
      cases z2
      exact ⟨q.1, q.2, rfl⟩
    · have z2 : (none : Option HO) = some u := (if_neg q).symm.trans z
      cases z2
  have hS : SqL K trk a (ns.map V.int) := by
    cases q : K.lookup a with
    | none => exact .inl (.inr ⟨scr, if_pos ⟨rfl, q⟩⟩)
    | some o =>
      have z := gin a o q
      rw [ha] at z
      cases z
      exact .inr ⟨_, vs.toArray, _, q, rfl, rfl, rfl, by rw [List.size_toArray, ln]; exact hz, by simpa using rel⟩
  have hok : HOk prg wo trk st.heap := fun b u z => by
    obtain ⟨rfl, _, rfl⟩ := trk_at z
    exact ⟨ha, by rw [List.length_map]; exact hz, vs, _, rel, ha⟩
  have free : ∀ {b : Addr} {o : Obj}, st.heap.get? b = some o → (trk b = none) ∨ (o = scr ∧ b = a ∧ K.lookup a = none) := fun {b o} z => by
    cases q : trk b with
    | none => exact .inl rfl
    | some u =>
      obtain ⟨rfl, n, _⟩ := trk_at q
      rw [ha] at z
      exact .inr ⟨(Option.some.inj z).symm, rfl, n⟩
  have nsG : ∀ {b : Addr} {m : Str → Option Value}, st.heap.Ns b m → (hidT st.heap trk).Ns b m := fun {b m} z => by
    obtain ⟨o, es, ep, h1, h2, h3⟩ := z
    rcases free h1 with q | ⟨q, _, _⟩
    · exact ⟨o, es, ep, hidT_get h1 q, h2, h3⟩
    · rw [q] at h2
      cases (show Data.seq vs.toArray _ = Data.dict es ep from h2)
  have kG : K.In (hidT st.heap trk) := fun b o z => by
    rcases free (gin b o z) with q | ⟨_, rfl, n⟩
    · exact hidT_get (gin b o z) q
    · rw [n] at z
      cases z
  have md : Mod K mg (hidT st.heap trk) := ⟨kG, nsG gns, ⟨mb, nsG bns, bb⟩, by
    obtain ⟨mc, h1, h2⟩ := nl
    exact ⟨mc, nsG h1, h2⟩⟩
  have e0 : Env0 prg wo K mg (hidT st.heap trk) callerA [] st trk := ⟨rfl, md, fun b o z => of_hidT z, Nat.le_of_eq (hidT_size _ _), trivial, fun b z => (nomatch z), hok, .of_eq ng⟩
  have go := (F _ kG (nsG gns)).run callerA [] st trk ⟨[.ref a], []⟩ [.ref a] [.ref a] _ _ rfl hr e0 (bd st (.ref a)) (.cons rfl .nil) (hsp trk hS)
  refine codeAny_mono go fun res s' hres => ?_
  match res, hres with
  | .error er, hres => exact (hcx trk er s' hres).elim
  | .ok .next, hres => exact False.elim hres
  | .ok .brk, hres => exact False.elim hres
  | .ok .cont, hres => exact False.elim hres
  | .ok (.ret u), hres =>
    obtain ⟨v, H', os, bare, un, hok', rv, q⟩ := hres
    have q2 : v = .bl true := q
    subst q2
    cases (show u = Value.bool true from rv)
    refine ⟨rfl, OldK.of_keep fun b o z => ?_, os, bare⟩
    cases hq : trk b with
    | none => exact un.keep b o z hq (fun n => (nomatch n)) (fun n => (nomatch n))
    | some u =>
      obtain ⟨rfl, _, rfl⟩ := trk_at hq
      obtain ⟨e2, _⟩ := hok' b _ (un.frzs b _ _ hq)
      rw [ha] at z
      cases z
      exact e2
end Deep

/-! Dp9: what fits does what the code does. -/
namespace Deep
open PySem L2 PyProof.Rows
/-- the def f is called -/
def FnAt (F : FE) (ct : List (String × Addr)) (X : Cx) (f : String) : Prop := ∃ (k : Nat) (a : Addr) (fd : FuncData) (ps : List Str), FnG X.prog X.w X.K X.mg X.base (L2.CX X.prog X.w) k a fd ps (spD ⟨xw X, ct⟩ (F f)) ∧ Room k X.A ∧ X.mg (f : Str) = some (.ref a) ∧ PySem.W.keepIn X.K (.ref a) = true ∧ Binds X.K fd ps []
structure XOk (F : FE) (ct : List (String × Addr)) (W : WX) (C : Ck) (X : Cx) : Prop where
  N : X.N = C.N
  nd : C.N.Nodup
  sc : X.env.scope = C.sc
  kind : C.sc.kind = .function
  calm : X.calm = true
  hu : X.A.units + 200 < cLine
  gd : X.A.guards = some []
  tk : Takes X W
  bl : ∀ b ∈ C.bl, X.mg b = none
  gl : ∀ p ∈ C.gl, ∃ (u : Value) (v : V), X.mg p.1 = some u ∧ RelV v u ∧ ∀ G, RD (xw X) G v p.2
  wr : ∀ x ∈ C.wr, locB C.sc x = true → X.fn x = true ∨ C.sc.names.lookup x = some .local
  fs : ∀ f ∈ C.fl, FnAt F ct X f
section
variable {F : FE} {ct : List (String × Addr)} {W : WX} {C : Ck} {X : Cx}
theorem XOk.blk (xo : XOk F ct W C X) {scope : Scope} {own : List (Str × Nat)} (hb : blkC C.N C.sc scope own = true) (ho : ownB scope own = true) (s : Shared) (H : Hp) (Ca : Addr) (cl : List (Str × Addr)) (fp : List Addr) :
    XOk F ct (fun _ _ _ _ => False) (C.blk scope own) (X.blk s H scope (compEnvC scope cl Ca X.env) fp) where
  N := xo.N
  nd := xo.nd
  sc := by
    show relabel scope X.env = relS scope C.sc
    rw [← xo.sc]
    rfl
  kind := (blkOk_by hb).kind
  calm := xo.calm
  hu := xo.hu
  gd := xo.gd
  tk := takes0
  bl := xo.bl
  gl := xo.gl
  wr := fun x hx _ => by
    obtain ⟨p, hp, rfl⟩ := List.mem_map.mp hx
    have h1 := List.all_eq_true.mp ho p hp
    rcases locB_ok h1 with h2 | h2
    · right
      exact lookup_relS_keep (by decide) h2
    · left
      show (scope.names.lookup p.1 == some NameKind.cell) = true
      rw [h2]
      rfl
  fs := xo.fs
theorem XOk.gL (xo : XOk F ct W C X) {x : Str} (h : glbB C.sc x = true) : Gl X x := by
  have e := glbB_ok h
  rw [← xo.sc] at e
  exact e
theorem XOk.blt (xo : XOk F ct W C X) {x : Str} (h : blN C x = true) : Gl X x ∧ X.mg x = none ∧ (x == ("__debug__" : Str)) = false ∧ x ≠ "__name__" := by
  unfold blN at h
  simp only [Bool.and_eq_true, decide_eq_true_eq] at h
  obtain ⟨a, b, c⟩ := dbgB_ok h.1.2
  exact ⟨xo.gL h.1.1, xo.bl x h.2, a, c⟩
mutual
theorem snd_tn (xo : XOk F ct W C X) : ∀ (t : Tn) (e : Expr), chkN t C e = true → ∃ g, PG X e g ∧ SimG (xw X) (tnIx t) g (tnD t)
  | .nm i, e, h => by
    cases e with
    | Name x pos =>
      simp only [chkN, Bool.and_eq_true, decide_eq_true_eq] at h
      have hl := locB_ok h.1.2
      refine ⟨gName i, pg_name (by rw [xo.N]; exact xo.nd) (by rw [xo.N]; exact h.1.1) (by rw [xo.sc]; exact hl) ?_, simG_nm i⟩
      have := xo.wr x h.2 h.1.2
      rw [← xo.sc] at this
      exact this
    | _ => exact absurd h Bool.false_ne_true
  | .tp ts, e, h => by
    cases e with
    | Tuple es k pos =>
      have h' : chkNs ts C es = true := h
      obtain ⟨g, hg, hs, hl, hn⟩ := snd_tns xo ts es h'
      exact ⟨gTup X.K (tnsLen ts) g, pg_tup xo.calm hg hl hn, simG_tp rfl hs⟩
    | _ => exact absurd h Bool.false_ne_true
theorem snd_tns (xo : XOk F ct W C X) : ∀ (ts : Tns) (es : List Expr), chkNs ts C es = true → ∃ g, PGs X es g ∧ SimGs (xw X) (tnsIx ts) g (tnsD ts) ∧ (assignEach es X.env).length = tnsLen ts ∧ (assignEach es X.env).findIdx? (·.1) = none
  | .nil, es, h => by
    cases es with
    | nil => exact ⟨gNil, pgs_nil, simGs_nil, rfl, rfl⟩
    | cons _ _ => exact absurd h Bool.false_ne_true
  | .cons t ts, es, h => by
    cases es with
    | nil => exact absurd h Bool.false_ne_true
    | cons e es =>
      simp only [chkNs, Bool.and_eq_true] at h
      obtain ⟨g, hg, hs⟩ := snd_tn xo t e h.1
      obtain ⟨gs, hgs, hss, hl, hn⟩ := snd_tns xo ts es h.2
      have ea : assignEach (e :: es) X.env = (false, assign e X.env) :: assignEach es X.env := by
        have h1 := h.1
        cases e <;> first
          | rfl
          | (cases t <;> exact absurd h1 Bool.false_ne_true)
      refine ⟨gCons g gs, pgs_cons hg hgs (by rw [ea]; rfl), simGs_cons hs hss, ?_, ?_⟩
      · rw [ea]
        simp only [List.length_cons, hl, tnsLen]
      · rw [ea]
        simp only [List.findIdx?_cons, hn]
        rfl
end
theorem const_ok {d : D} {k : Const} {i : Nat} {pos : Pos} (h : constB d k = true) : JE ct W X (.Constant k i pos) fun _ h Q _ => Q d h := by
  unfold constB at h
  split at h
  · rw [of_decide_eq_true h]
    exact ⟨_, pe_int, simE_c fun _ => .int _⟩
  · rw [of_decide_eq_true h]
    exact ⟨_, pe_str, simE_c fun _ => .str _⟩
  · rw [beq_iff_eq.mp h]
    exact ⟨_, pe_bl, simE_c fun _ => .bl _⟩
  · exact ⟨_, pe_non, simE_c fun _ => .non⟩
  · cases h
theorem jt_val {e : Expr} {T : DE} (hp : plainT e = true) (h : JE ct W X e T) : JT ct W X e T := by
  obtain ⟨t, p, s⟩ := h
  exact ⟨tB t, pt_val p (isTrue_ok hp), simT_val s⟩
/-- both ways of an expression -/
abbrev Both (F : FE) (ct : List (String × Addr)) (W : WX) (X : Cx) (c : Ex) (e : Expr) : Prop := JE ct W X e (evE F c) ∧ (noIte c = true → JT ct W X e (evE F c))
theorem both_val {c : Ex} {e : Expr} (hp : plainT e = true) (h : JE ct W X e (evE F c)) : Both F ct W X c e := ⟨h, fun _ => jt_val hp h⟩
theorem sim_neg {S : Sx} : SimR1 S (rU fun i => .int (-i)) negD := by
  intro G hid dh H Q Q' v d sm rv h k
  cases rv <;> first
    | exact h.elim
    | exact ⟨_, rfl, k.same sm (.int _) h⟩
theorem bi_pe {b : Bi} {x : Str} {e : Expr} {es : List Expr} {p pos : Pos} {t : TA} {r : List V → Hp → VK → Prop} (hx : x = biS b) (hc : CallR X (biV b) r) (hg : Gl X x) (hm : X.mg x = none) (hn : x ≠ "__name__") (hdb : (x == ("__debug__" : Str)) = false) (ha : PA X (e :: es) t) (he : (e :: es).all fineB = true) :
    PE X (.Call (.Name x p) (e :: es) [] pos) (tCB r t) := by
  subst hx
  have hb := bi_boot b
  simp only [List.all_cons, Bool.and_eq_true] at he
  have h1 := star_ok (es := es) (env := X.env) he.1
  have h2 := plain_any (pos := pos) (env := X.env) he.2
  unfold biV at hc hb
  cases q : biTy b with
  | none =>
    rw [q] at hc hb
    exact pe_callB hc hg hm hb ha hn hdb h1 h2
  | some T =>
    rw [q] at hc hb
    exact pe_callTy hc hg hm hb ha hn hdb h1 h2
theorem few_ok {e : Expr} {cp : Pos} {env : Env} (h : fineB e = true) : ((backTo cp (starEach [e] env)).all (fun x => !x.1) && (backToKw cp (keywordEach [] env)).all (fun x => x.1.isSome)
      && decide (([e] : List Expr).length + ([] : List Keyword).length + (if ([] : List Keyword).isEmpty then 0 else 1) < 30)) = true := by
  rw [star_ok h]
  rfl
theorem bm1 {id : String} {r : V → List V → Hp → VK → Prop} {o e : Expr} {m : Str} {ap cp : Pos} {to : TE} {t : TA} (slot : Slot "list" m id) (hty : typeOf (.builtin id) = pure (.type "method_descriptor")) (hm : MtR X id r) (ho : PE X o to) (ha : PA X [e] t) (hb : baseB o = true) (hl : (ap.endLine == cp.line) = true) (he : fineB e = true) :
    PE X (.Call (.Attribute o m ap) [e] [] cp) (tBM X.K "list" r to t) :=
  pe_bm PySem.F.plainAttrs_list slot hty hm ho ha (base_ok hb) (few_ok he) hl (star_ok he) rfl
theorem bm0 {id : String} {r : V → List V → Hp → VK → Prop} {o : Expr} {m : Str} {ap cp : Pos} {to : TE} (slot : Slot "list" m id) (hty : typeOf (.builtin id) = pure (.type "method_descriptor")) (hm : MtR X id r) (ho : PE X o to) (hb : baseB o = true) (hl : (ap.endLine == cp.line) = true) :
    PE X (.Call (.Attribute o m ap) [] [] cp) (tBM0 X.K "list" r to) :=
  pe_bm0 PySem.F.plainAttrs_list slot hty hm ho (base_ok hb) hl
theorem mt_one {f : Mt} {o e : Expr} {ap cp : Pos} {to : TE} {t : TA} (hl : mtN f = 1) (ho : PE X o to) (ha : PA X [e] t) (hb : baseB o = true) (hline : (ap.endLine == cp.line) = true) (he : fineB e = true) :
    PE X (.Call (.Attribute o (mtS f) ap) [e] [] cp) (tBM X.K "list" (rMt f) to t) := by
  cases f with
  | append => exact bm1 PySem.F.slot_list_append PySem.F.type_list_append mt_append ho ha hb hline he
  | extend => exact bm1 PySem.F.slot_list_extend PySem.F.type_list_extend mt_extend ho ha hb hline he
  | pop1 => exact bm1 PySem.F.slot_list_pop PySem.F.type_list_pop mt_popAt ho ha hb hline he
  | _ => cases hl
theorem mt_none {f : Mt} {o : Expr} {ap cp : Pos} {to : TE} (hl : mtN f = 0) (ho : PE X o to) (hb : baseB o = true) (hline : (ap.endLine == cp.line) = true) :
    PE X (.Call (.Attribute o (mtS f) ap) [] [] cp) (tBM0 X.K "list" (rMt f) to) := by
  cases f with
  | pop0 => exact bm0 PySem.F.slot_list_pop PySem.F.type_list_pop mt_pop ho hb hline
  | clear => exact bm0 PySem.F.slot_list_clear PySem.F.type_list_clear mt_clear ho hb hline
  | _ => cases hl
theorem tm_pe {f : Tm} {o e : Expr} {ap cp : Pos} {to te : TE} (ho : PE X o to) (he : PE X e te) (hb : baseB o = true) (hline : (ap.endLine == cp.line) = true) (hf : fineB e = true) :
    PE X (.Call (.Attribute o (tmS f) ap) [e] [] cp) (tM1 (rTm X.K f) to te) := by
  cases f with
  | join => exact pe_join ho he (star_ok hf) (base_ok hb) hline
  | part => exact pe_partition ho he (star_ok hf) (base_ok hb) hline
  | split => exact pe_split ho he (star_ok hf) (base_ok hb) hline
theorem jw_one {e : Expr} {T : DE} {pos : Pos} (h : JT ct W X e T) : JW ct W X (.BoolOp .And [e] pos) T := by
  obtain ⟨t, p, s⟩ := h
  exact ⟨t, pw_and1 p, s⟩
theorem jw_oneO {e : Expr} {T : DE} {pos : Pos} (h : JT ct W X e T) : JW ct W X (.BoolOp .Or [e] pos) T := by
  obtain ⟨t, p, s⟩ := h
  exact ⟨t, pw_or1 p, s⟩
theorem chkA_fine : ∀ {es : Exs} {C : Ck} {xs : List Expr}, chkA es C xs = true → xs.all fineB = true
  | .nil, C, xs, h => by
    cases xs with
    | nil => rfl
    | cons _ _ => exact absurd h Bool.false_ne_true
  | .cons a r, C, xs, h => by
    cases xs with
    | nil => exact absurd h Bool.false_ne_true
    | cons x xs =>
      simp only [chkA, Bool.and_eq_true] at h
      rw [List.all_cons, h.1, chkA_fine h.2.2]
      rfl
def JC (ct : List (String × Addr)) (W : WX) (X : Cx) (ifs : List Expr) (T : DT) : Prop := ∃ t, PTs X ifs t ∧ SimT (sx ct X) W t T
/-! one reading for every place -/
def liftE (S : Sx) (W : WX) (T : DE) : TE := fun σ H Q => ∃ (G : Gho) (hid : Hp) (ds : DSt) (dh : DH) (Q' : DQ) (E' : XQ), RS S.K G σ ds ∧ Sim S.K G dh hid H ∧ CX' S G hid (WE W σ) E' ∧ T ds dh Q' E' ∧ CQ S G hid Q Q'
def liftT (S : Sx) (W : WX) (T : DT) : TT := fun σ H Q => ∃ (G : Gho) (hid : Hp) (ds : DSt) (dh : DH) (Q' : Bool → DH → Prop) (E' : XQ), RS S.K G σ ds ∧ Sim S.K G dh hid H ∧ CX' S G hid (WE W σ) E' ∧ T ds dh Q' E' ∧ (∀ G' H' b dh', GE G G' → Sim S.K G' dh' hid H' → Q' b dh' → Q b H')
def liftG (K : FW) (is : List Nat) (T : D → DSt → (DSt → Prop) → Prop) : TG := fun v σ H Q => ∃ (G : Gho) (d : D) (ds : DSt) (hid : Hp) (dh : DH) (Q' : DSt → Prop), RS K G σ ds ∧ Sim K G dh hid H ∧ RD K G v d ∧ T d ds Q' ∧ (∀ σ' ds', RS K G σ' ds' → OnlyAt is σ σ' → Q' ds' → Q σ' H)
theorem lift_sim {S : Sx} {T : DE} : SimE S W (liftE S W T) T := fun G hid σ ds dh H Q Q' E' rs sm ce h k => ⟨G, hid, ds, dh, Q', E', rs, sm, ce, h, k⟩
theorem liftT_sim {S : Sx} {T : DT} : SimT S W (liftT S W T) T := fun G hid σ ds dh H Q Q' E' rs sm ce h k => ⟨G, hid, ds, dh, Q', E', rs, sm, ce, h, k⟩
theorem liftG_sim {K : FW} {is : List Nat} {T : D → DSt → (DSt → Prop) → Prop} : SimG K is (liftG K is T) T := fun G v d σ ds hid dh H Q Q' rs sm r h k => ⟨G, d, ds, hid, dh, Q', rs, sm, r, h, k⟩
theorem JE.lift {e : Expr} {T : DE} (h : JE ct W X e T) : PE X e (liftE (sx ct X) W T) := by
  obtain ⟨t, p, s⟩ := h
  constructor
  intro pins st σ H Q I hw
  obtain ⟨G, hid, ds, dh, Q', E', rs, sm, ce, q, k⟩ := hw
  exact p.run pins st σ H Q I (s G hid σ ds dh H Q Q' E' rs sm ce q k)
theorem JC.lift {es : List Expr} {T : DT} (h : JC ct W X es T) : PTs X es (liftT (sx ct X) W T) := by
  obtain ⟨t, p, s⟩ := h
  constructor
  intro pins st σ H Q I hw
  obtain ⟨G, hid, ds, dh, Q', E', rs, sm, ce, q, k⟩ := hw
  exact p.run pins st σ H Q I (s G hid σ ds dh H Q Q' E' rs sm ce q k)
theorem liftG_of {e : Expr} {g : TG} {is : List Nat} {T : D → DSt → (DSt → Prop) → Prop} (p : PG X e g) (s : SimG (xw X) is g T) : PG X e (liftG (xw X) is T) := by
  constructor
  intro pins st σ H v u Q I r hw
  obtain ⟨G, d, ds, hid, dh, Q', rs, sm, rd, q, k⟩ := hw
  exact p.run pins st σ H v u Q I r (s G v d σ ds hid dh H Q Q' rs sm rd q k)
abbrev W0 : WX := fun _ _ _ _ => False
/-- what its two rules ask of a comprehension -/
theorem lc_parts (xo : XOk F ct W C X) {elt tg iter : Expr} {ifs : List Expr} {scope : Scope} {own : List (Str × Nat)} {t : Tn} {I : DI} {Ct : DT} {B : DE} (hb : blkC C.N C.sc scope own = true) (ho : ownB scope own = true) (hv : (tnIx t).all (fun i => decide (i ∈ own.map (·.2))) = true) (ht : chkN t (C.blk scope own) tg = true)
    (hi : JI ct W X tg iter I) (hc : ∀ {X' : Cx}, XOk F ct W0 (C.blk scope own) X' → X'.K = X.K → JC ct W0 X' ifs Ct) (he : ∀ {X' : Cx}, XOk F ct W0 (C.blk scope own) X' → X'.K = X.K → JE ct W0 X' elt B) (m : LK) :
    ∃ wi, PI X tg iter wi ∧ (∀ (s : Shared) (H : Hp) (Ca : Addr) (cl : List (Str × Addr)) (fp : List Addr), PG (X.blk s H scope (compEnvC scope cl Ca X.env) fp) tg (liftG (xw X) (tnIx t) (tnD t))) ∧
      (∀ (s : Shared) (H : Hp) (Ca : Addr) (cl : List (Str × Addr)) (fp : List Addr), PTs (X.blk s H scope (compEnvC scope cl Ca X.env) fp) ifs (liftT (sx ct X) W0 Ct)) ∧
      (∀ (s : Shared) (H : Hp) (Ca : Addr) (cl : List (Str × Addr)) (fp : List Addr), PE (X.blk s H scope (compEnvC scope cl Ca X.env) fp) elt (liftE (sx ct X) W0 B)) ∧
      SimE (sx ct X) W (tLc wi (liftG (xw X) (tnIx t) (tnD t)) (liftT (sx ct X) W0 Ct) (liftE (sx ct X) W0 B) (own.map (·.2))) fun σ h Q E => I σ h (fun xs ok h1 => lcD (tnD t) ok Ct B (wipeD σ (own.map (·.2))) (fun acc h2 => newL m acc h2 Q) xs [] h1) E := by
  obtain ⟨wi, pi, si⟩ := hi
  refine ⟨wi, pi, fun s H Ca cl fp => ?_, fun s H Ca cl fp => ?_, fun s H Ca cl fp => ?_, ?_⟩
  · obtain ⟨g, pg, sg⟩ := snd_tn (xo.blk hb ho s H Ca cl fp) t tg ht
    exact liftG_of pg sg
  · exact (hc (xo.blk hb ho s H Ca cl fp) rfl).lift
  · exact (he (xo.blk hb ho s H Ca cl fp) rfl).lift
  · refine simE_lc (fun i hi' => ?_) si liftG_sim liftT_sim lift_sim
    exact of_decide_eq_true (List.all_eq_true.mp hv i hi')
mutual
theorem sndE : ∀ (c : Ex) {W : WX} {C : Ck} {X : Cx} (xo : XOk F ct W C X) (e : Expr), chkE c C e = true → Both F ct W X c e
  | .var i, W, C, X, xo, e, h => by
    cases e with
    | Name x pos =>
      simp only [chkE, Bool.and_eq_true, decide_eq_true_eq] at h
      obtain ⟨d1, d2, d3⟩ := dbgB_ok h.2
      have hv := visB_ok h.1.2
      rw [← xo.sc] at hv
      refine both_val rfl ⟨tVar i, pe_var (by rw [xo.N]; exact h.1.1) hv d1 d2, simE_var⟩
    | _ => exact absurd h Bool.false_ne_true
  | .cst d, W, C, X, xo, e, h => by
    cases e with
    | Constant k i pos => exact both_val rfl (const_ok h)
    | _ => exact absurd h Bool.false_ne_true
  | .glb y d, W, C, X, xo, e, h => by
    cases e with
    | Name x pos =>
      simp only [chkE, glN, Bool.and_eq_true, decide_eq_true_eq] at h
      obtain ⟨d1, d2, d3⟩ := dbgB_ok h.1.2.2
      obtain ⟨p, hp, h2⟩ := List.any_eq_true.mp h.2
      simp only [Bool.and_eq_true, decide_eq_true_eq] at h2
      obtain ⟨e1, e2⟩ := h2
      have e3 := eqbD_ok e2
      obtain ⟨u, v, hm, r, rd⟩ := xo.gl p hp
      subst e3
      rw [e1] at hm
      exact both_val rfl ⟨tC v, pe_glob (xo.gL h.1.2.1) hm r d1, simE_c rd⟩
    | _ => exact absurd h Bool.false_ne_true
  | .typ n, W, C, X, xo, e, h => by
    cases e with
    | Name x pos =>
      simp only [chkE, Bool.and_eq_true, decide_eq_true_eq] at h
      obtain ⟨g, m, d1, d3⟩ := xo.blt h.2
      have hb := typN_ok h.1.2
      rw [← h.1.1] at hb
      exact both_val rfl ⟨tC (.ty n), pe_bltn g m hb rfl d3 d1, simE_c fun _ => .ty n⟩
    | _ => exact absurd h Bool.false_ne_true
  | .op o m a b, W, C, X, xo, e, h => by
    cases e with
    | BinOp l op r pos =>
      simp only [chkE, Bool.and_eq_true, beq_iff_eq] at h
      obtain ⟨ta, pa, sa⟩ := (sndE a xo l h.2.1).1
      obtain ⟨tb, pb, sb⟩ := (sndE b xo r h.2.2).1
      rw [h.1]
      exact both_val rfl ⟨tOp (rOp X.K o) ta tb, pe_op (op_ok o) pa pb, simE_bin (sim_op o m) sa sb⟩
    | _ => exact absurd h Bool.false_ne_true
  | .neg a, W, C, X, xo, e, h => by
    cases e with
    | UnaryOp op x pos =>
      cases op with
      | USub =>
        obtain ⟨ta, pa, sa⟩ := (sndE a xo x h).1
        have s : SimE (sx ct X) W (tUn (rU fun i => .int (-i)) ta) (evE F (.neg a)) := simE_un (R := negD) sim_neg sa
        exact ⟨⟨_, pe_un un_neg pa, s⟩, fun _ => ⟨tB _, pt_val (pe_un un_neg pa) (fun _ => rfl), simT_val s⟩⟩
      | _ => exact absurd h Bool.false_ne_true
    | _ => exact absurd h Bool.false_ne_true
  | .cmp c a b, W, C, X, xo, e, h => by
    cases e with
    | Compare l ops rs pos =>
      match ops, rs, h with
      | [op], [r], h =>
        simp only [chkE, Bool.and_eq_true, beq_iff_eq] at h
        obtain ⟨ta, pa, sa⟩ := (sndE a xo l h.2.2.1).1
        obtain ⟨tb, pb, sb⟩ := (sndE b xo r h.2.2.2).1
        have hu : X.A.units + 200 < cLine := by have := xo.hu; omega
        rw [h.1]
        have s := simE_bin (sim_cp (S := sx ct X) c) sa sb
        exact ⟨⟨_, pe_cmpR (cp_ok hu c) pa pb (mark_ok h.2.1), s⟩, fun _ => ⟨_, pt_cmpR (cp_ok hu c) pa pb (mark_ok h.2.1), simT_val s⟩⟩
    | _ => exact absurd h Bool.false_ne_true
  | .chn c c' a b d, W, C, X, xo, e, h => by
    cases e with
    | Compare l ops rs pos =>
      match ops, rs, h with
      | [op, op'], [r, q], h =>
        simp only [chkE, Bool.and_eq_true, beq_iff_eq] at h
        obtain ⟨⟨h1, h2⟩, h3, h4, h5, h6⟩ := h
        obtain ⟨ta, pa, sa⟩ := (sndE a xo l h4).1
        obtain ⟨tb, pb, sb⟩ := (sndE b xo r h5).1
        obtain ⟨td, pd, sd⟩ := (sndE d xo q h6).1
        have hu : X.A.units + 200 < cLine := by have := xo.hu; omega
        rw [h1, h2]
        have s := simE_chn (sim_cp (S := sx ct X) c) (sim_cp (S := sx ct X) c') sa sb sd
        have hm : lastMarks [cpS c, cpS c'] [r, q] = false := mark_ok h3
        exact ⟨⟨_, pe_chain (cp_ok hu c) (cp_ok hu c') pa pb pd hm, s⟩, fun _ => ⟨_, pt_chain (cp_ok hu c) (cp_ok hu c') pa pb pd hm, simT_val s⟩⟩
    | _ => exact absurd h Bool.false_ne_true
  | .and a es, W, C, X, xo, e, h => by
    cases e with
    | BoolOp op xs pos =>
      match op, xs, h with
      | .And, x :: xs, h =>
        simp only [chkE, Bool.and_eq_true] at h
        have ha := sndE a xo x h.1
        refine ⟨sndAnd es xo xs pos h.2 x ha.1, fun hn => ?_⟩
        simp only [noIte, Bool.and_eq_true] at hn
        obtain ⟨t, p, s⟩ := sndAndT es xo xs pos h.2 hn.2 x (ha.2 hn.1)
        exact ⟨t, p.pt, s⟩
    | _ => exact absurd h Bool.false_ne_true
  | .or a es, W, C, X, xo, e, h => by
    cases e with
    | BoolOp op xs pos =>
      match op, xs, h with
      | .Or, x :: xs, h =>
        simp only [chkE, Bool.and_eq_true] at h
        have ha := sndE a xo x h.1
        refine ⟨sndOr es xo xs pos h.2 x ha.1, fun hn => ?_⟩
        simp only [noIte, Bool.and_eq_true] at hn
        obtain ⟨t, p, s⟩ := sndOrT es xo xs pos h.2 hn.2 x (ha.2 hn.1)
        exact ⟨t, p.pt, s⟩
    | _ => exact absurd h Bool.false_ne_true
  | .not a, W, C, X, xo, e, h => by
    cases e with
    | UnaryOp op x pos =>
      cases op with
      | Not =>
        obtain ⟨⟨ta, pa, sa⟩, h2⟩ := sndE a xo x h
        refine ⟨⟨tNotV ta, pe_not pa, simE_not sa⟩, fun hn => ?_⟩
        obtain ⟨t, p, s⟩ := h2 hn
        exact ⟨tNot t, pt_not p, simT_not s⟩
      | _ => exact absurd h Bool.false_ne_true
    | _ => exact absurd h Bool.false_ne_true
  | .ite c a b, W, C, X, xo, e, h => by
    cases e with
    | IfExp q x y pos =>
      simp only [chkE, Bool.and_eq_true] at h
      obtain ⟨t, p, s⟩ := (sndE c xo q h.2.1).2 h.1
      obtain ⟨ta, pa, sa⟩ := (sndE a xo x h.2.2.1).1
      obtain ⟨tb, pb, sb⟩ := (sndE b xo y h.2.2.2).1
      exact ⟨⟨tIf t ta tb, pe_ifExp p pa pb, simE_ite s sa sb⟩, fun hn => absurd hn Bool.false_ne_true⟩
    | _ => exact absurd h Bool.false_ne_true
  | .tup es, W, C, X, xo, e, h => by
    cases e with
    | Tuple xs k pos =>
      obtain ⟨t, p, s⟩ := sndA es xo xs h
      exact both_val rfl ⟨tTup t, pe_tup p, simE_tup s⟩
    | _ => exact absurd h Bool.false_ne_true
  | .lst m es, W, C, X, xo, e, h => by
    cases e with
    | List xs pos =>
      obtain ⟨t, p, s⟩ := sndA es xo xs h
      exact both_val rfl ⟨tLst t, pe_lst p, simE_lst s⟩
    | _ => exact absurd h Bool.false_ne_true
  | .ix a b, W, C, X, xo, e, h => by
    cases e with
    | Subscript x y pos =>
      simp only [chkE, Bool.and_eq_true] at h
      obtain ⟨ta, pa, sa⟩ := (sndE a xo x h.2.1).1
      obtain ⟨tb, pb, sb⟩ := (sndE b xo y h.2.2).1
      exact both_val rfl ⟨tOp (rIxAll (xw X)) ta tb, pe_ix (ix_seq.or (ix_dict xo.hu)) pa pb (ix_ok h.1), simE_bin sim_ix sa sb⟩
    | _ => exact absurd h Bool.false_ne_true
  | .sl m a lo hi, W, C, X, xo, e, h => by
    cases e with
    | Subscript x y pos =>
      cases y with
      | Slice l u st p2 =>
        cases st with
        | none =>
          simp only [chkE, Bool.and_eq_true] at h
          obtain ⟨ta, pa, sa⟩ := (sndE a xo x h.1).1
          obtain ⟨tl, pl, sl⟩ := sndO lo xo l h.2.1
          obtain ⟨th, ph, sh⟩ := sndO hi xo u h.2.2
          exact both_val rfl ⟨tSl (rSl X.K) ta tl th, pe_slice sl_ok pa pl ph, simE_sl sa sl sh⟩
        | some _ => exact absurd h Bool.false_ne_true
      | _ => exact absurd h Bool.false_ne_true
    | _ => exact absurd h Bool.false_ne_true
  | .call f es, W, C, X, xo, e, h => by
    cases e with
    | Call g xs kw pos =>
      cases g with
      | Name x p2 =>
        match kw, h with
        | [], h =>
          simp only [chkE, glN, Bool.and_eq_true, decide_eq_true_eq] at h
          obtain ⟨⟨⟨rfl, hf⟩, hg, hd⟩, ha⟩ := h
          obtain ⟨d1, _, _⟩ := dbgB_ok hd
          obtain ⟨k, a, fd, ps, Fo, hr, hm, hk, hb⟩ := xo.fs f hf
          obtain ⟨t, p, s⟩ := sndA es xo xs ha
          have hx : ∀ σ, PassesAt (L2.CX X.prog X.w) X σ (WE W σ) := fun σ => passAt xo.tk σ
          have sm : SimE (sx ct X) W (tCallS (spD (sx ct X) (F f)) (WE W) t) (evE F (.call f es)) := simE_call s
          have hfn := chkA_fine ha
          match xs, p, hfn with
          | [], p, _ =>
            cases es with
            | nil => exact both_val rfl ⟨_, pe_callG0 Fo xo.gd hr (xo.gL hg) hm hk hb hx d1, simE_call simA_nil⟩
            | cons _ _ => exact absurd ha Bool.false_ne_true
          | y :: ys, p, hfn =>
            simp only [List.all_cons, Bool.and_eq_true] at hfn
            exact both_val rfl ⟨_, pe_callG Fo xo.gd hr (xo.gL hg) hm hk hb hx p d1 (star_ok hfn.1) (plain_any hfn.2), sm⟩
      | _ => exact absurd h Bool.false_ne_true
    | _ => exact absurd h Bool.false_ne_true
  | .bi f m es, W, C, X, xo, e, h => by
    cases e with
    | Call g xs kw pos =>
      cases g with
      | Name x p2 =>
        match xs, kw, h with
        | y :: ys, [], h =>
          simp only [chkE, Bool.and_eq_true, decide_eq_true_eq] at h
          obtain ⟨g, hm, d1, d3⟩ := xo.blt h.1.2
          obtain ⟨t, p, s⟩ := sndA es xo (y :: ys) h.2
          exact both_val rfl ⟨_, bi_pe h.1.1 (bi_ok xo.calm xo.gd xo.hu f) g hm d3 d1 p (chkA_fine h.2), simE_args (sim_bi f m) s⟩
      | _ => exact absurd h Bool.false_ne_true
    | _ => exact absurd h Bool.false_ne_true
  | .mt f o es, W, C, X, xo, e, h => by
    cases e with
    | Call g xs kw pos =>
      cases g with
      | Attribute y m ap =>
        match kw, h with
        | [], h =>
          simp only [chkE, Bool.and_eq_true, decide_eq_true_eq] at h
          obtain ⟨⟨⟨⟨rfl, hb⟩, hl⟩, hn⟩, ho, ha⟩ := h
          have hn' : xs.length = mtN f := beq_iff_eq.mp hn
          obtain ⟨to, po, so⟩ := (sndE o xo y ho).1
          obtain ⟨t, p, s⟩ := sndA es xo xs ha
          have hfn := chkA_fine ha
          match xs, p, hfn, hn' with
          | [], p, _, hn' =>
            cases es with
            | nil => exact both_val rfl ⟨_, mt_none hn'.symm po hb hl, simE_mt0 so⟩
            | cons _ _ => exact absurd ha Bool.false_ne_true
          | [z], p, hfn, hn' =>
            simp only [List.all_cons, Bool.and_eq_true] at hfn
            exact both_val rfl ⟨_, mt_one hn'.symm po p hb hl hfn.1, simE_mt so s⟩
          | _ :: _ :: _, _, _, hn' => cases f <;> simp [mtN] at hn'
      | _ => exact absurd h Bool.false_ne_true
    | _ => exact absurd h Bool.false_ne_true
  | .tm f m o a, W, C, X, xo, e, h => by
    cases e with
    | Call g xs kw pos =>
      cases g with
      | Attribute y n ap =>
        match xs, kw, h with
        | [x], [], h =>
          simp only [chkE, Bool.and_eq_true, decide_eq_true_eq] at h
          obtain ⟨⟨⟨⟨rfl, hb⟩, hl⟩, hn⟩, ho, ha⟩ := h
          obtain ⟨to, po, so⟩ := (sndE o xo y ho).1
          obtain ⟨ta, pa, sa⟩ := (sndE a xo x ha).1
          exact both_val rfl ⟨_, tm_pe po pa hb hl hn, simE_tm so sa⟩
      | _ => exact absurd h Bool.false_ne_true
    | _ => exact absurd h Bool.false_ne_true
  | .ddsp k v, W, C, X, xo, e, h => by
    cases e with
    | Dict ks vs pos =>
      match ks, vs, h with
      | [some x], [y], h =>
        simp only [chkE, Bool.and_eq_true] at h
        obtain ⟨tk, pk, sk⟩ := (sndE k xo x h.1).1
        obtain ⟨tv, pv, sv⟩ := (sndE v xo y h.2).1
        exact both_val rfl ⟨_, pe_disp1 xo.hu pk pv, simE_ddsp sk sv⟩
    | _ => exact absurd h Bool.false_ne_true
  | .mxd a d, W, C, X, xo, e, h => by
    cases e with
    | Call g xs kw pos =>
      cases g with
      | Name x p2 =>
        match xs, kw, h with
        | [y], [⟨some k, z, kp⟩], h =>
          simp only [chkE, Bool.and_eq_true, decide_eq_true_eq] at h
          obtain ⟨⟨⟨⟨rfl, rfl⟩, hb⟩, hf⟩, ha, hd⟩ := h
          obtain ⟨g, hm, d1, d3⟩ := xo.blt hb
          obtain ⟨ta, pa, sa⟩ := (sndE a xo y ha).1
          obtain ⟨td, pd, sd⟩ := (sndE d xo z hd).1
          have st := star_ok (es := []) (env := X.env) hf
          refine both_val rfl ⟨_, pe_callBK (ks := ["default"]) (cr_maxDef xo.calm xo.hu) g hm (by decide +kernel) (pa_cons pa pa_nil st) (pk_cons pd pk_nil) d3 d1 (by rw [st]; rfl) (by rw [st]; rfl), simE_mxd sa sd⟩
      | _ => exact absurd h Bool.false_ne_true
    | _ => exact absurd h Bool.false_ne_true
  | .lrng m a, W, C, X, xo, e, h => by
    cases e with
    | Call g xs kw pos =>
      cases g with
      | Name x p2 =>
        match xs, kw, h with
        | [.Call (.Name y p3) [z] [] p4], [], h =>
          simp only [chkE, Bool.and_eq_true, decide_eq_true_eq] at h
          obtain ⟨⟨⟨⟨⟨rfl, rfl⟩, hb⟩, hb2⟩, hf⟩, ha⟩ := h
          obtain ⟨g, hm, d1, d3⟩ := xo.blt hb
          obtain ⟨g2, hm2, d12, d32⟩ := xo.blt hb2
          obtain ⟨ta, pa, sa⟩ := (sndE a xo z ha).1
          have st := star_ok (es := []) (env := X.env) hf
          have pr : PE X (.Call (.Name "range" p3) [z] [] p4) (tCB rRange1 (tCons ta tNil)) := pe_callTy cr_range1 g2 hm2 (by decide +kernel) (pa_cons pa pa_nil st) d32 d12 st (by rw [show starEach ([] : List Expr) X.env = [] from rfl]; rfl)
          have st2 : starEach [Expr.Call (.Name "range" p3) [z] [] p4] X.env = (false, eval (Expr.Call (.Name "range" p3) [z] [] p4) X.env) :: starEach [] X.env := star_ok (es := []) (env := X.env) rfl
          exact both_val rfl ⟨_, pe_callTy (cr_lrng xo.calm) g hm (by decide +kernel) (pa_cons pr pa_nil st2) d3 d1 st2 (by rw [show starEach ([] : List Expr) X.env = [] from rfl]; rfl), simE_lrng sa⟩
      | _ => exact absurd h Bool.false_ne_true
    | _ => exact absurd h Bool.false_ne_true
  | .dnew t, W, C, X, xo, e, h => by
    cases e with
    | Dict ks vs pos =>
      match ks, vs, h with
      | [], [], _ =>
        refine both_val rfl ⟨_, ?_, simE_dnew (S := sx ct X) t⟩
        cases t with
        | true => exact pe_dnewX
        | false => exact pe_dnewK
    | _ => exact absurd h Bool.false_ne_true
  | .dget o k d, W, C, X, xo, e, h => by
    cases e with
    | Call g xs kw pos =>
      cases g with
      | Attribute y n ap =>
        match xs, kw, h with
        | [x, z], [], h =>
          simp only [chkE, Bool.and_eq_true, decide_eq_true_eq] at h
          obtain ⟨⟨⟨⟨⟨rfl, hb⟩, hl⟩, hn⟩, hn2⟩, ho, hk, hd⟩ := h
          obtain ⟨to, po, so⟩ := (sndE o xo y ho).1
          obtain ⟨tk, pk, sk⟩ := (sndE k xo x hk).1
          obtain ⟨td, pd, sd⟩ := (sndE d xo z hd).1
          have st : starEach [x, z] X.env = [(false, eval x X.env), (false, eval z X.env)] := by
            rw [star_ok (es := [z]) hn, star_ok (es := []) hn2]
            rfl
          exact both_val rfl ⟨_, pe_dgetX xo.hu po pk pd ⟨base_ok hb, by rw [st]; rfl, hl, by rw [st]; rfl⟩, simE_dget so sk sd⟩
      | _ => exact absurd h Bool.false_ne_true
    | _ => exact absurd h Bool.false_ne_true
  | .frz a, W, C, X, xo, e, h => by
    obtain ⟨ta, pa, sa⟩ := (sndE a xo e h).1
    exact ⟨⟨_, pe_frz pa, simE_frz sa⟩, fun hn => absurd hn Bool.false_ne_true⟩
  | .lc m own it tg c el, W, C, X, xo, e, h => by
    cases e with
    | ListComp elt gs scope pos =>
      match gs, h with
      | [⟨t, iter, ifs, k⟩], h =>
        simp only [chkE, Bool.and_eq_true] at h
        obtain ⟨⟨⟨⟨⟨⟨hk, hf⟩, hb⟩, ho⟩, hv⟩, ht⟩, hi, hc, he⟩ := h
        have hk' : k = 0 := beq_iff_eq.mp hk
        subst hk'
        obtain ⟨wi, p1, p2, p3, p4, s⟩ := lc_parts xo hb ho hv ht (sndI it xo t iter hf hi) (fun {X'} xo' _ => sndC c xo' ifs hc) (fun {X'} xo' _ => (sndE el xo' elt he).1) m
        exact both_val rfl ⟨_, pe_lc xo.calm (by rw [xo.N]; exact xo.nd) p1 (by rw [xo.N, xo.sc]; exact blkOk_by hb) p2 p3 p4 (fold_ok hf), s⟩
    | _ => exact absurd h Bool.false_ne_true
theorem sndA : ∀ (es : Exs) {W : WX} {C : Ck} {X : Cx} (xo : XOk F ct W C X) (xs : List Expr), chkA es C xs = true → JA ct W X xs (evA F es)
  | .nil, W, C, X, xo, xs, h => by
    cases xs with
    | nil => exact ⟨tNil, pa_nil, simA_nil⟩
    | cons _ _ => exact absurd h Bool.false_ne_true
  | .cons a r, W, C, X, xo, xs, h => by
    cases xs with
    | nil => exact absurd h Bool.false_ne_true
    | cons x xs =>
      simp only [chkA, Bool.and_eq_true] at h
      obtain ⟨ta, pa, sa⟩ := (sndE a xo x h.2.1).1
      obtain ⟨t, p, s⟩ := sndA r xo xs h.2.2
      exact ⟨tCons ta t, pa_cons pa p (star_ok h.1), simA_cons sa s⟩
theorem sndAnd : ∀ (es : Exs) {W : WX} {C : Ck} {X : Cx} (xo : XOk F ct W C X) (xs : List Expr) (pos : Pos), chkA es C xs = true → ∀ (x : Expr) {A : DE}, JE ct W X x A → JE ct W X (.BoolOp .And (x :: xs) pos) fun σ h Q E => A σ h (fun v h1 => evAnd F es v σ h1 Q E) E
  | .nil, W, C, X, xo, xs, pos, h, x, A, ja => by
    cases xs with
    | nil =>
      obtain ⟨t, p, s⟩ := ja
      exact ⟨t, pe_one p, s⟩
    | cons _ _ => exact absurd h Bool.false_ne_true
  | .cons a r, W, C, X, xo, xs, pos, h, x, A, ja => by
    cases xs with
    | nil => exact absurd h Bool.false_ne_true
    | cons y xs =>
      simp only [chkA, Bool.and_eq_true] at h
      obtain ⟨t, p, s⟩ := ja
      obtain ⟨u, q, s2⟩ := sndAnd r xo xs pos h.2.2 y (sndE a xo y h.2.1).1
      exact ⟨tAndV t u, pe_and p q, simE_and s s2⟩
theorem sndAndT : ∀ (es : Exs) {W : WX} {C : Ck} {X : Cx} (xo : XOk F ct W C X) (xs : List Expr) (pos : Pos), chkA es C xs = true → noItes es = true → ∀ (x : Expr) {A : DE}, JT ct W X x A → JW ct W X (.BoolOp .And (x :: xs) pos) fun σ h Q E => A σ h (fun v h1 => evAnd F es v σ h1 Q E) E
  | .nil, W, C, X, xo, xs, pos, h, hn, x, A, ja => by
    cases xs with
    | nil => exact jw_one ja
    | cons _ _ => exact absurd h Bool.false_ne_true
  | .cons a r, W, C, X, xo, xs, pos, h, hn, x, A, ja => by
    cases xs with
    | nil => exact absurd h Bool.false_ne_true
    | cons y xs =>
      simp only [chkA, Bool.and_eq_true] at h
      simp only [noItes, Bool.and_eq_true] at hn
      obtain ⟨t, p, s⟩ := ja
      obtain ⟨u, q, s2⟩ := sndAndT r xo xs pos h.2.2 hn.2 y ((sndE a xo y h.2.1).2 hn.1)
      exact ⟨tAnd t u, pw_and p q, simT_and (A := A) (B := fun σ h Q E => evE F a σ h (fun v h1 => evAnd F r v σ h1 Q E) E) s s2⟩
theorem sndOr : ∀ (es : Exs) {W : WX} {C : Ck} {X : Cx} (xo : XOk F ct W C X) (xs : List Expr) (pos : Pos), chkA es C xs = true → ∀ (x : Expr) {A : DE}, JE ct W X x A → JE ct W X (.BoolOp .Or (x :: xs) pos) fun σ h Q E => A σ h (fun v h1 => evOr F es v σ h1 Q E) E
  | .nil, W, C, X, xo, xs, pos, h, x, A, ja => by
    cases xs with
    | nil =>
      obtain ⟨t, p, s⟩ := ja
      exact ⟨t, pe_one p, s⟩
    | cons _ _ => exact absurd h Bool.false_ne_true
  | .cons a r, W, C, X, xo, xs, pos, h, x, A, ja => by
    cases xs with
    | nil => exact absurd h Bool.false_ne_true
    | cons y xs =>
      simp only [chkA, Bool.and_eq_true] at h
      obtain ⟨t, p, s⟩ := ja
      obtain ⟨u, q, s2⟩ := sndOr r xo xs pos h.2.2 y (sndE a xo y h.2.1).1
      exact ⟨tOrV t u, pe_or p q, simE_or s s2⟩
theorem sndOrT : ∀ (es : Exs) {W : WX} {C : Ck} {X : Cx} (xo : XOk F ct W C X) (xs : List Expr) (pos : Pos), chkA es C xs = true → noItes es = true → ∀ (x : Expr) {A : DE}, JT ct W X x A → JW ct W X (.BoolOp .Or (x :: xs) pos) fun σ h Q E => A σ h (fun v h1 => evOr F es v σ h1 Q E) E
  | .nil, W, C, X, xo, xs, pos, h, hn, x, A, ja => by
    cases xs with
    | nil => exact jw_oneO ja
    | cons _ _ => exact absurd h Bool.false_ne_true
  | .cons a r, W, C, X, xo, xs, pos, h, hn, x, A, ja => by
    cases xs with
    | nil => exact absurd h Bool.false_ne_true
    | cons y xs =>
      simp only [chkA, Bool.and_eq_true] at h
      simp only [noItes, Bool.and_eq_true] at hn
      obtain ⟨t, p, s⟩ := ja
      obtain ⟨u, q, s2⟩ := sndOrT r xo xs pos h.2.2 hn.2 y ((sndE a xo y h.2.1).2 hn.1)
      exact ⟨tOr t u, pw_or p q, simT_or (A := A) (B := fun σ h Q E => evE F a σ h (fun v h1 => evOr F r v σ h1 Q E) E) s s2⟩
theorem sndO : ∀ (o : OE) {W : WX} {C : Ck} {X : Cx} (xo : XOk F ct W C X) (e : Option Expr), chkO o C e = true → ∃ t, PO X e t ∧ SimO (sx ct X) W t (evO F o)
  | .non, W, C, X, xo, e, h => by
    cases e with
    | none => exact ⟨tNoPart, po_none, simO_non⟩
    | some _ => exact absurd h Bool.false_ne_true
  | .som a, W, C, X, xo, e, h => by
    cases e with
    | none => exact absurd h Bool.false_ne_true
    | some x =>
      obtain ⟨t, p, s⟩ := (sndE a xo x h).1
      exact ⟨tPart t, po_some p, simO_som s⟩
theorem sndC : ∀ (o : OE) {W : WX} {C : Ck} {X : Cx} (xo : XOk F ct W C X) (es : List Expr), chkC o C es = true → JC ct W X es (evC F o)
  | .non, W, C, X, xo, es, h => by
    cases es with
    | nil => exact ⟨tYes, pts_nil, fun G hid σ ds dh H Q Q' E' rs sm ce h k => k G H true dh (GE.refl _) sm h⟩
    | cons _ _ => exact absurd h Bool.false_ne_true
  | .som a, W, C, X, xo, es, h => by
    match es, h with
    | [x], h =>
      simp only [chkC, Bool.and_eq_true] at h
      obtain ⟨t, p, s⟩ := (sndE a xo x h.2).2 h.1
      exact ⟨t, pts_one p, s⟩
theorem sndI : ∀ (i : Iw) {W : WX} {C : Ck} {X : Cx} (xo : XOk F ct W C X) (tg iter : Expr), fineB iter = true → chkI i C tg iter = true → JI ct W X tg iter (evI F i)
  | .ex a, W, C, X, xo, tg, iter, hf, h => by
    obtain ⟨t, p, s⟩ := (sndE a xo iter h).1
    exact ⟨_, pi_seqD p, simI_seq s⟩
  | .rng es, W, C, X, xo, tg, iter, hf, h => by
    cases iter with
    | Call g xs kw pos =>
      cases g with
      | Name x p2 =>
        match kw, h with
        | [], h =>
          simp only [chkI, Bool.and_eq_true, decide_eq_true_eq] at h
          obtain ⟨⟨⟨rfl, hb⟩, ha⟩, hl⟩ := h
          obtain ⟨g, hm, d1, d3⟩ := xo.blt hb
          match es, xs, ha, hl with
          | .cons a .nil, [x], ha, _ =>
            simp only [chkA, Bool.and_eq_true] at ha
            obtain ⟨ta, pa, sa⟩ := (sndE a xo x ha.2.1).1
            exact ⟨_, pi_range1 g hm (pa_cons pa pa_nil (star_ok ha.1)) (star_ok ha.1), simI_rng1 sa⟩
          | .cons a (.cons b .nil), [x, y], ha, _ =>
            simp only [chkA, Bool.and_eq_true] at ha
            obtain ⟨ta, pa, sa⟩ := (sndE a xo x ha.2.1).1
            obtain ⟨tb, pb, sb⟩ := (sndE b xo y ha.2.2.2.1).1
            have s1 : starEach [x, y] X.env = (false, eval x X.env) :: starEach [y] X.env := star_ok ha.1
            have s2 : starEach [y] X.env = [(false, eval y X.env)] := star_ok ha.2.2.1
            exact ⟨_, pi_range2 g hm (pa_cons pa (pa_cons pb pa_nil s2) s1) (by rw [s1, s2]) s2, simI_rng2 sa sb⟩
          | .cons a (.cons b (.cons c .nil)), [x, y, z], ha, _ =>
            simp only [chkA, Bool.and_eq_true] at ha
            obtain ⟨ta, pa, sa⟩ := (sndE a xo x ha.2.1).1
            obtain ⟨tb, pb, sb⟩ := (sndE b xo y ha.2.2.2.1).1
            obtain ⟨tc, pc, sc⟩ := (sndE c xo z ha.2.2.2.2.2.1).1
            have s1 : starEach [x, y, z] X.env = (false, eval x X.env) :: starEach [y, z] X.env := star_ok ha.1
            have s2 : starEach [y, z] X.env = (false, eval y X.env) :: starEach [z] X.env := star_ok ha.2.2.1
            have s3 : starEach [z] X.env = [(false, eval z X.env)] := star_ok ha.2.2.2.2.1
            exact ⟨_, pi_range3 g hm (pa_cons pa (pa_cons pb (pa_cons pc pa_nil s3) s2) s1) s1 (plain_any (by simp only [List.all_cons, ha.2.2.1, ha.2.2.2.2.1]; rfl)), simI_rng3 sa sb sc⟩
          | .nil, [], _, hl => simp at hl
          | .nil, _ :: _, ha, _ => exact absurd ha Bool.false_ne_true
          | .cons _ _, [], ha, _ => exact absurd ha Bool.false_ne_true
          | .cons _ (.cons _ _), [_], ha, _ => simp [chkA] at ha
          | .cons _ .nil, _ :: _ :: _, ha, _ => simp [chkA] at ha
          | .cons _ (.cons _ (.cons _ _)), [_, _], ha, _ => simp [chkA] at ha
          | .cons _ (.cons _ .nil), _ :: _ :: _ :: _, ha, _ => simp [chkA] at ha
          | .cons _ (.cons _ (.cons _ (.cons _ _))), [_, _, _], ha, _ => simp [chkA] at ha
          | .cons _ (.cons _ (.cons _ _)), _ :: _ :: _ :: _ :: _, _, hl => simp at hl
      | _ => exact absurd h Bool.false_ne_true
    | _ => exact absurd h Bool.false_ne_true
  | .enm a, W, C, X, xo, tg, iter, hf, h => by
    match tg, iter, h with
    | .Tuple _ _ _, .Call (.Name x _) [y] [] _, h =>
      simp only [chkI, Bool.and_eq_true, decide_eq_true_eq] at h
      obtain ⟨⟨rfl, hb⟩, hy, ha⟩ := h
      obtain ⟨g, hm, d1, d3⟩ := xo.blt hb
      obtain ⟨ta, pa, sa⟩ := (sndE a xo y ha).1
      exact ⟨_, pi_enum g hm (pa_cons pa pa_nil (star_ok hy)) (star_ok hy), simI_enm sa⟩
  | .zip a b, W, C, X, xo, tg, iter, hf, h => by
    match tg, iter, h with
    | .Tuple _ _ _, .Call (.Name x _) [y, z] [] _, h =>
      simp only [chkI, Bool.and_eq_true, decide_eq_true_eq] at h
      obtain ⟨⟨rfl, hb⟩, hy, hz, ha, hb2⟩ := h
      obtain ⟨g, hm, d1, d3⟩ := xo.blt hb
      obtain ⟨ta, pa, sa⟩ := (sndE a xo y ha).1
      obtain ⟨tb, pb, sb⟩ := (sndE b xo z hb2).1
      exact ⟨_, RZ.pi_zipA g hm (pa_cons pa (pa_cons pb pa_nil (star_ok hz)) (star_ok hy)) (star_ok hy) (plain_any (by simp only [List.all_cons, hz]; rfl)), simI_zip sa sb⟩
  | .rev a, W, C, X, xo, tg, iter, hf, h => by
    match iter, h with
    | .Call (.Name x _) [y] [] _, h =>
      simp only [chkI, Bool.and_eq_true, decide_eq_true_eq] at h
      obtain ⟨⟨rfl, hb⟩, hy, ha⟩ := h
      obtain ⟨g, hm, d1, d3⟩ := xo.blt hb
      obtain ⟨ta, pa, sa⟩ := (sndE a xo y ha).1
      exact ⟨_, RT.pi_revA g hm pa (star_ok hy), simI_rev sa⟩
end
end
end Deep

/-! Dp10: statements that fit do what the code does. -/
namespace Deep
open PySem L2 PyProof.Rows
structure XOkS (F : FE) (ct : List (String × Addr)) (W : WX) (C : Ck) (X : Cx) : Prop where
  xo : XOk F ct W C X
  po : PassesOwn (model X.prog X.w) X.A X.env X.xe
def JS (ct : List (String × Addr)) (W : WX) (X : Cx) (st : Stmt) (T : DS) : Prop := ∃ t, PS X st t ∧ SimS (sx ct X) W t T
def JSs (ct : List (String × Addr)) (W : WX) (X : Cx) (sts : List Stmt) (T : DS) : Prop := ∃ t, PSs X sts t ∧ SimS (sx ct X) W t T
section
variable {F : FE} {ct : List (String × Addr)} {W : WX} {C : Ck} {X : Cx}
theorem swS_ok {e tg : Expr} {l : Nat} {env : Env} (h : nlcB e = true ∨ noNmB tg = true) : swapsWithSole [tg] e l env = pure false := by
  show swapsWith e (some tg) l env = pure false
  rcases h with h | h
  · exact swap_ok h
  · exact swap_tg h
theorem swT_ok {e : Expr} {ts : List Expr} {k : Nat} {p : Pos} {env : Env} (hk : env.scope.kind = .function)
    (h : (match e with
        | .Tuple vs _ _ => noSwapB env.scope ts vs && vs.any starV == false
        | _ => true) = true) : swappedStores [.Tuple ts k p] e env = pure none := by
  cases e with
  | Tuple vs k2 p2 =>
    have h' : (noSwapB env.scope ts vs && vs.any starV == false) = true := h
    rw [Bool.and_eq_true, beq_iff_eq] at h'
    exact noSwap_ok hk h'.2 h'.1
  | _ => rfl
/-- a list made by a comprehension, stored under a name -/
theorem snd_lcS (xo : XOk F ct W C X) {i : Nat} {y : Str} {py spos : Pos} (hi : C.N[i]? = some y) : ∀ (a : Ex) (e : Expr), lcTop a = true → chkE a C e = true → fastB C.sc e (.Name y py) = true → ∃ t, PS X (.Assign [.Name y py] e spos) (tAsg t (gName i)) ∧ SimE (sx ct X) W t (evE F a)
  | .lc m own it tg c el, e, _, h, hf => by
    cases e with
    | ListComp elt gs scope pos =>
      match gs, h with
      | [⟨t, iter, ifs, k⟩], h =>
        simp only [chkE, Bool.and_eq_true] at h
        obtain ⟨⟨⟨⟨⟨⟨hk, hfi⟩, hb⟩, ho⟩, hv⟩, ht⟩, hii, hc, he⟩ := h
        have hk' : k = 0 := beq_iff_eq.mp hk
        subst hk'
        simp only [fastB, Bool.and_eq_true, beq_iff_eq] at hf
        obtain ⟨⟨h1, h2⟩, h3⟩ := hf
        obtain ⟨wi, p1, p2, p3, p4, s⟩ := lc_parts xo hb ho hv ht (sndI it xo t iter hfi hii) (fun {X'} xo' _ => sndC c xo' ifs hc) (fun {X'} xo' _ => (sndE el xo' elt he).1) m
        have hkind : X.env.scope.kind = .function := by rw [xo.sc]; exact xo.kind
        have hy : X.env.scope.names.lookup y = some .local := by rw [xo.sc]; exact h1
        exact ⟨_, ps_setLc xo.calm (by rw [xo.N]; exact xo.nd) (by rw [xo.N]; exact hi) hy (sw_true hkind hy (by rw [beq_iff_eq]; exact h2) h3) p1 (by rw [xo.N, xo.sc]; exact blkOk_by hb) p2 p3 p4 (fold_ok hfi), s⟩
    | _ => exact absurd h Bool.false_ne_true
  | .var _, _, hl, _, _ => absurd hl Bool.false_ne_true
  | .cst _, _, hl, _, _ => absurd hl Bool.false_ne_true
  | .glb _ _, _, hl, _, _ => absurd hl Bool.false_ne_true
  | .op _ _ _ _, _, hl, _, _ => absurd hl Bool.false_ne_true
  | .neg _, _, hl, _, _ => absurd hl Bool.false_ne_true
  | .cmp _ _ _, _, hl, _, _ => absurd hl Bool.false_ne_true
  | .chn _ _ _ _ _, _, hl, _, _ => absurd hl Bool.false_ne_true
  | .and _ _, _, hl, _, _ => absurd hl Bool.false_ne_true
  | .or _ _, _, hl, _, _ => absurd hl Bool.false_ne_true
  | .typ _, _, hl, _, _ => absurd hl Bool.false_ne_true
  | .not _, _, hl, _, _ => absurd hl Bool.false_ne_true
  | .ite _ _ _, _, hl, _, _ => absurd hl Bool.false_ne_true
  | .tup _, _, hl, _, _ => absurd hl Bool.false_ne_true
  | .lst _ _, _, hl, _, _ => absurd hl Bool.false_ne_true
  | .ix _ _, _, hl, _, _ => absurd hl Bool.false_ne_true
  | .sl _ _ _ _, _, hl, _, _ => absurd hl Bool.false_ne_true
  | .call _ _, _, hl, _, _ => absurd hl Bool.false_ne_true
  | .bi _ _ _, _, hl, _, _ => absurd hl Bool.false_ne_true
  | .mt _ _ _, _, hl, _, _ => absurd hl Bool.false_ne_true
  | .tm _ _ _ _, _, hl, _, _ => absurd hl Bool.false_ne_true
  | .dnew _, _, hl, _, _ => absurd hl Bool.false_ne_true
  | .mxd _ _, _, hl, _, _ => absurd hl Bool.false_ne_true
  | .ddsp _ _, _, hl, _, _ => absurd hl Bool.false_ne_true
  | .lrng _ _, _, hl, _, _ => absurd hl Bool.false_ne_true
  | .dget _ _ _, _, hl, _, _ => absurd hl Bool.false_ne_true
  | .frz _, _, hl, _, _ => absurd hl Bool.false_ne_true
theorem snd_asg (xo : XOk F ct W C X) (t : Tn) (a : Ex) (st : Stmt) (h : chkS (.asg t a) C st = true) : JS ct W X st (evS F (.asg t a)) := by
  have hkind : X.env.scope.kind = .function := by rw [xo.sc]; exact xo.kind
  cases st with
  | Assign tgs e pos =>
    match tgs, h with
    | [tg], h =>
      simp only [chkS, Bool.and_eq_true] at h
      obtain ⟨ht, he, h3⟩ := h
      cases tg with
      | Name y py =>
        have h3' : (nlcB e || (lcTop a && fastB C.sc e (.Name y py))) = true := h3
        obtain ⟨g, pg, sg⟩ := snd_tn xo t _ ht
        cases hn : nlcB e with
        | true =>
          obtain ⟨ta, pa, sa⟩ := (sndE a xo e he).1
          exact ⟨_, ps_asg pa pg (swS_ok (.inl hn)) rfl rfl, simS_asg sa sg⟩
        | false =>
          rw [hn, Bool.false_or, Bool.and_eq_true] at h3'
          cases t with
          | nm i =>
            simp only [chkN, Bool.and_eq_true, decide_eq_true_eq] at ht
            obtain ⟨ta, pa, sa⟩ := snd_lcS xo (spos := pos) ht.1.1 a e h3'.1 he h3'.2
            exact ⟨_, pa, simS_asg sa (simG_nm i)⟩
          | tp ts => exact absurd ht Bool.false_ne_true
      | Tuple ts k p =>
        obtain ⟨g, pg, sg⟩ := snd_tn xo t _ ht
        obtain ⟨ta, pa, sa⟩ := (sndE a xo e he).1
        refine ⟨_, ps_asg pa pg (swS_ok (.inr rfl)) (swT_ok hkind ?_) rfl, simS_asg sa sg⟩
        rw [xo.sc]
        exact h3
      | _ => exact absurd h3 Bool.false_ne_true
  | _ => exact absurd h Bool.false_ne_true
mutual
theorem sndS : ∀ (s : Sm) {X : Cx} (xs : XOkS F ct W C X) (st : Stmt), chkS s C st = true → JS ct W X st (evS F s)
  | .asg t a, X, xs, st, h => snd_asg xs.xo t a st h
  | .par i j a b, X, xs, st, h => by
    have xo := xs.xo
    cases st with
    | Assign tgs e pos =>
      match tgs, e, h with
      | [.Tuple [.Name x px, .Name y py] kt pt], .Tuple [e, f] k2 p2, h =>
        simp only [chkS, Bool.and_eq_true, decide_eq_true_eq] at h
        obtain ⟨⟨⟨⟨⟨⟨h1, h2⟩, h3⟩, h4⟩, h5⟩, h6⟩, ha, hb⟩ := h
        obtain ⟨ta, pa, sa⟩ := (sndE a xo e ha).1
        obtain ⟨tb, pb, sb⟩ := (sndE b xo f hb).1
        have hkind : X.env.scope.kind = .function := by rw [xo.sc]; exact xo.kind
        have h4' := h4
        simp only [parB, Bool.and_eq_true, beq_iff_eq] at h4'
        obtain ⟨⟨⟨⟨⟨k1, k2⟩, _⟩, _⟩, _⟩, _⟩ := h4'
        refine ⟨_, ps_par xo.calm (by rw [xo.N]; exact xo.nd) (by rw [xo.N]; exact h1) (by rw [xo.N]; exact h2) h3 (by rw [xo.sc]; exact k1) (by rw [xo.sc]; exact k2) (pa_cons pa (pa_cons pb pa_nil (star_ok h6)) (star_ok h5)) (par_ok hkind h5 h6 (by rw [xo.sc]; exact h4)) rfl, simS_par sa sb⟩
    | _ => exact absurd h Bool.false_ne_true
  | .sub o i a, X, xs, st, h => by
    have xo := xs.xo
    cases st with
    | Assign tgs e pos =>
      match tgs, h with
      | [.Subscript p q sp], h =>
        simp only [chkS, Bool.and_eq_true] at h
        obtain ⟨hq, ho, hi, ha⟩ := h
        obtain ⟨to, po, so⟩ := (sndE o xo p ho).1
        obtain ⟨ti, pi, si⟩ := (sndE i xo q hi).1
        obtain ⟨ta, pa, sa⟩ := (sndE a xo e ha).1
        have pg : PG X (.Subscript p q sp) (gSub to ti (rSet (xw X))) := by
          cases q <;> first
            | exact absurd hq Bool.false_ne_true
            | exact pg_sub po pi (set_ok xo.hu)
        exact ⟨_, ps_asg pa pg (swS_ok (.inr rfl)) rfl rfl, simS_sub sa so si⟩
    | _ => exact absurd h Bool.false_ne_true
  | .exp a, X, xs, st, h => by
    cases st with
    | Expr e pos =>
      simp only [chkS, Bool.and_eq_true] at h
      obtain ⟨ta, pa, sa⟩ := (sndE a xs.xo e h.2).1
      exact ⟨_, ps_expr pa (swap_ok h.1), simS_exp sa⟩
    | _ => exact absurd h Bool.false_ne_true
  | .ret a, X, xs, st, h => by
    cases st with
    | Return e pos =>
      cases e with
      | some e =>
        obtain ⟨ta, pa, sa⟩ := (sndE a xs.xo e h).1
        exact ⟨_, ps_ret pa, simS_ret sa⟩
      | none => exact absurd h Bool.false_ne_true
    | _ => exact absurd h Bool.false_ne_true
  | .retN, X, xs, st, h => by
    cases st with
    | Return e pos =>
      cases e with
      | none => exact ⟨_, ps_retN, simS_retN⟩
      | some e => exact absurd h Bool.false_ne_true
    | _ => exact absurd h Bool.false_ne_true
  | .ite c a b, X, xs, st, h => by
    cases st with
    | If e x y pos =>
      simp only [chkS, Bool.and_eq_true] at h
      obtain ⟨h1, h2, h3, h4⟩ := h
      obtain ⟨tc, pc, sc⟩ := (sndE c xs.xo e h2).2 h1
      obtain ⟨ta, pa, sa⟩ := sndSs a xs x h3
      obtain ⟨tb, pb, sb⟩ := sndSs b xs y h4
      exact ⟨_, ps_if pc pa pb, simS_ite sc sa sb⟩
    | _ => exact absurd h Bool.false_ne_true
  | .whl c b, X, xs, st, h => by
    cases st with
    | While e x orelse pos =>
      match orelse, h with
      | [], h =>
        simp only [chkS, Bool.and_eq_true] at h
        obtain ⟨h1, h2, h3⟩ := h
        obtain ⟨tc, pc, sc⟩ := (sndE c xs.xo e h2).2 h1
        obtain ⟨tb, pb, sb⟩ := sndSs b xs x h3
        exact ⟨_, ps_while xs.po pc pb, simS_whl sc sb⟩
    | _ => exact absurd h Bool.false_ne_true
  | .for t it b, X, xs, st, h => by
    cases st with
    | For tg iter x orelse pos =>
      match orelse, h with
      | [], h =>
        simp only [chkS, Bool.and_eq_true] at h
        obtain ⟨⟨h1, h2⟩, h3, h4⟩ := h
        obtain ⟨g, pg, sg⟩ := snd_tn xs.xo t tg h2
        obtain ⟨wi, pi, si⟩ := sndI it xs.xo tg iter h1 h3
        obtain ⟨tb, pb, sb⟩ := sndSs b xs x h4
        exact ⟨_, ps_for xs.po xs.xo.calm pi pg pb (fold_ok h1), simS_for si sg sb⟩
    | _ => exact absurd h Bool.false_ne_true
  | .brk, X, xs, st, h => by
    cases st with
    | Break pos => exact ⟨_, ps_break, simS_brk⟩
    | _ => exact absurd h Bool.false_ne_true
  | .cnt, X, xs, st, h => by
    cases st with
    | Continue pos => exact ⟨_, ps_continue, simS_cnt⟩
    | _ => exact absurd h Bool.false_ne_true
  | .pas, X, xs, st, h => by
    cases st with
    | Pass pos => exact ⟨_, ps_pass, simS_pas⟩
    | _ => exact absurd h Bool.false_ne_true
theorem sndSs : ∀ (s : Sms) {X : Cx} (xs : XOkS F ct W C X) (sts : List Stmt), chkSs s C sts = true → JSs ct W X sts (evSs F s)
  | .frz i r, X, xs, sts, h => by
    obtain ⟨t, p, sm⟩ := sndSs r xs sts h
    exact ⟨_, pss_frzV p, simSs_frz sm⟩
  | .nil, X, xs, sts, h => by
    cases sts with
    | nil => exact ⟨_, pss_nil, simS_pas⟩
    | cons _ _ => exact absurd h Bool.false_ne_true
  | .cons s r, X, xs, sts, h => by
    cases sts with
    | nil => exact absurd h Bool.false_ne_true
    | cons st sts =>
      simp only [chkSs, Bool.and_eq_true] at h
      obtain ⟨ta, pa, sa⟩ := sndS s xs st h.1
      obtain ⟨tb, pb, sb⟩ := sndSs r xs sts h.2
      exact ⟨_, pss_cons pa pb, simS_seq (U := evS F s) (V := evSs F r) sa sb⟩
end
end
end Deep

/-! Dp11: the defs of a text keep what their code says; the law's end. -/
namespace Deep
open PySem PySem.Spec PyProof.Rows L2
/-- a def: its code, its names by slot, its parameters, where it stands -/
structure Ent where
  d : Df
  N : List Str
  ps : List Str
  st : Stmt
def Ent.ck (e : Ent) (bl : List Str) (gl : List (Str × D)) (fl : List String) : Ck := ⟨e.N, defScope e.st, e.N, bl, gl, fl⟩
def kindB : ScopeKind → Bool
  | .function => true
  | _ => false
def freeB : NameKind → Bool
  | .free => true
  | _ => false
def entB (bl : List Str) (gl : List (Str × D)) (fl : List String) (e : Ent) : Bool :=
  kindB (defScope e.st).kind && !(defScope e.st).isCoroutine && !(defScope e.st).isGenerator && decide e.N.Nodup && decide (e.N.take e.ps.length = e.ps) && (e.ps.all fun x => locB (defScope e.st) x) && ((defScope e.st).names.all fun y => !freeB y.2) && (e.d.np == e.ps.length) && (e.d.nl == e.N.length) && chkSs e.d.body (e.ck bl gl fl) (defBody e.st)
structure EntOk (bl : List Str) (gl : List (Str × D)) (fl : List String) (e : Ent) : Prop where
  sc : FnScope e.N e.ps (defScope e.st)
  np : e.d.np = e.ps.length
  nl : e.d.nl = e.N.length
  ch : chkSs e.d.body (e.ck bl gl fl) (defBody e.st) = true
theorem entB_ok {bl : List Str} {gl : List (Str × D)} {fl : List String} {e : Ent} (h : entB bl gl fl e = true) : EntOk bl gl fl e := by
  unfold entB at h
  simp only [Bool.and_eq_true, Bool.not_eq_true', decide_eq_true_eq, beq_iff_eq] at h
  obtain ⟨⟨⟨⟨⟨⟨⟨⟨⟨h1, h2⟩, h3⟩, h4⟩, h5⟩, h6⟩, h7⟩, h8⟩, h9⟩, h10⟩ := h
  refine ⟨⟨?_, h2, h3, h4, h5, fun x hx => ?_, fun y hy e => ?_⟩, h8, h9, h10⟩
  · cases q : (defScope e.st).kind <;> rw [q] at h1 <;> first | rfl | exact absurd h1 Bool.false_ne_true
  · exact locB_ok (List.all_eq_true.mp h6 x hx)
  · have := List.all_eq_true.mp h7 y hy
    rw [e] at this
    exact absurd this Bool.false_ne_true
/-- the def stands at f -/
structure EntAt (K : PySem.W.Frag) (mg : Str → Option Value) (e : Ent) (f : Addr) (fd : FuncData) : Prop where
  fn : FunD K (e.d.name : Str) (e.d.name : Str) (defArgs e.st) (defBody e.st) (defScope e.st) [] [] f fd
  mg : mg (e.d.name : Str) = some (.ref f)
  bd : Binds K fd e.ps []
def GlOk (K : PySem.W.Frag) (mg : Str → Option Value) (p : Str × D) : Prop := ∃ (u : Value) (v : V), mg p.1 = some u ∧ RelV v u ∧ ∀ (w : World) (G : Gho), RD ⟨K, w⟩ G v p.2
theorem RS.start {K : FW} {G : Gho} {vs : List V} {ds : List D} {N : List Str} (r : RDs K G vs ds) : RS K G (L2.start N vs) (startD N.length ds) := by
  have l := r.length
  refine ⟨by simp [L2.start, startD, l], fun i d h => ?_⟩
  unfold startD at h
  by_cases hi : i < ds.length
  · rw [List.getElem?_append_left (by simpa using hi), List.getElem?_map] at h
    obtain ⟨d', e1, e2⟩ := Option.map_eq_some_iff.mp h
    cases e2
    obtain ⟨v, e3, rv⟩ := r.get e1
    refine ⟨v, ?_, rv⟩
    unfold L2.start
    rw [List.getElem?_append_left (by rw [List.length_map, l]; exact hi), List.getElem?_map, e3]
    rfl
  · rw [List.getElem?_append_right (by simpa using hi), List.getElem?_replicate] at h
    split at h <;> cases h
section
variable {P : Program} {w : World} {K : PySem.W.Frag} {mg : Str → Option Value} {base : Heap} {ct : List (String × Addr)} {tab : String → Option Df} {bl : List Str} {gl : List (Str × D)} {fl : List String}
theorem fns_ok (ents : List Ent) (hE : ∀ e ∈ ents, EntOk bl gl fl e) (hT : ∀ e ∈ ents, tab e.d.name = some e.d) (hA : ∀ e ∈ ents, ∃ f fd, EntAt K mg e f fd) (hF : ∀ x ∈ fl, ∃ e ∈ ents, e.d.name = x)
    (hB : ∀ b ∈ bl, mg b = none) (hG : ∀ p ∈ gl, GlOk K mg p) : ∀ (n : Nat) (e : Ent), e ∈ ents → ∀ (f : Addr) (fd : FuncData), EntAt K mg e f fd → FnG P w K mg base (L2.CX P w) n f fd e.ps (spD ⟨⟨K, w⟩, ct⟩ (callD tab n e.d.name)) := by
  intro n
  induction n with
  | zero =>
    intro e he f fd A
    exact FnG.never fun vs H Q E h => by
      obtain ⟨_, _, _, _, _, _, _, _, _, h, _⟩ := h
      exact h
  | succ n ih =>
    intro e he f fd A
    obtain ⟨sc, np, nl, ch⟩ := hE e he
    have un : ∀ ds h Q E, callD tab (n + 1) e.d.name ds h Q E → ds.length = e.ps.length ∧ evSs (callD tab n) e.d.body { nx := fun _ h' => Q .non h', rt := Q, ex := fun c fs _ h' => E c fs h' } (startD e.d.nl ds) h := fun ds h Q E q => by
      simp only [callD, hT e he] at q
      rw [np] at q
      exact q
    refine fn_ofG A.fn sc (fun vs H Q E h => ?_) (fun cdv Ar outer s H vs Q E hgd hr h => ?_)
    · obtain ⟨G, hid, ds, dh, Q', E', sm, rs, _, h, _⟩ := h
      rw [rs.length]
      exact (un _ _ _ _ h).1
    · obtain ⟨G, hid, ds, dh, Q', E', sm, rs, ce, h, k⟩ := h
      obtain ⟨hl, h⟩ := un _ _ _ _ h
      have hu := hr.un
      have tk : Takes (cxOf (L2.CX P w) P w K mg base e.N (e.d.name : Str) (defScope e.st) f cdv Ar outer s H E) (fun cls d _ H => E cls d H) := takes_of rfl rfl rfl rfl
      have xo : XOk (callD tab n) ct (fun cls d _ H => E cls d H) (e.ck bl gl fl) (cxOf (L2.CX P w) P w K mg base e.N (e.d.name : Str) (defScope e.st) f cdv Ar outer s H E) := {
        N := rfl
        nd := sc.nd
        sc := rfl
        kind := sc.kind
        calm := rfl
        hu := by
          show (Ar.deeper (envOfC (e.d.name : Str) (defScope e.st) s.heap.objs.size f cdv)).units + 200 < cLine
          omega
        gd := hgd
        tk := tk
        bl := hB
        gl := fun p hp => by
          obtain ⟨u, v, h1, h2, h3⟩ := hG p hp
          exact ⟨u, v, h1, h2, h3 w⟩
        wr := fun x _ _ => .inl rfl
        fs := fun x hx => by
          obtain ⟨e', he', en⟩ := hF x hx
          obtain ⟨f', fd', A'⟩ := hA e' he'
          subst en
          exact ⟨n, f', fd', e'.ps, ih e' he' f' fd' A', hr, A'.mg, A'.fn.kp, A'.bd⟩ }
      obtain ⟨t, p, st⟩ := sndSs e.d.body ⟨xo, passes_of rfl⟩ (defBody e.st) ch
      refine ⟨t, p, st G hid _ _ dh H _ _ (by rw [nl]; exact RS.start rs) sm ?_ h⟩
      exact ⟨fun G' σ ds dh H e r s q => k G' H .non .non dh e s .non q, k, fun _ _ _ _ _ _ _ _ q => q.elim, fun _ _ _ _ _ _ _ _ q => q.elim, fun G' σ ds dh H cls d c fs e r s x q => ce G' H cls d c fs dh e s x q⟩
/-- the law's own promise, from what its code does over any script -/
theorem law_sp {H : Hp} {a : Addr} {ns : List Int} {T : List D → DH → DQ → XQ → Prop} (hS : SqL K H a (ns.map V.int)) (h : T [.scr ns] (fun _ => none) (fun v _ => v = .bl true) fun _ _ _ => False) :
    spD ⟨⟨K, w⟩, ct⟩ T [.ref a] H (fun v _ => v = .bl true) fun _ _ _ => False := by
  have fin : ∀ (G : Gho), CQ ⟨⟨K, w⟩, ct⟩ G (fun _ => none) (fun v _ => v = .bl true) (fun v _ => v = .bl true) := fun G G' H' v d dh' _ _ r q => by
    subst q
    cases r
    rfl
  rcases hS with hS | hS
  · refine ⟨fun b => if b = a then some (.scr ns) else none, fun _ => none, [.scr ns], fun _ => none, _, _, ⟨fun b k e => ?_, fun b o e => (by cases e), fun b o e => (by cases e)⟩, .cons (.scr (.inl (if_pos rfl))) .nil, fun _ _ _ _ _ _ _ _ _ _ z => z, h, fin _⟩
    by_cases hb : b = a
    · subst hb
      have e' : some (GK.scr ns) = some k := (if_pos rfl).symm.trans e
      cases e'
      exact hS
    · have e' : none = some k := (if_neg hb).symm.trans e
      cases e'
  · exact ⟨fun _ => none, fun _ => none, [.scr ns], fun _ => none, _, _, ⟨fun b k e => (by cases e), fun b o e => (by cases e), fun b o e => (by cases e)⟩, .cons (.scr (.inr hS)) .nil, fun _ _ _ _ _ _ _ _ _ _ z => z, h, fin _⟩
end
end Deep

/-! Dp12: what the head tells, for any list of defs and constants. -/
namespace Deep
open PySem PySem.Spec PyProof.Rows L2
mutual
def gdB (K : PySem.W.Frag) : D → Value → Bool
  | .non, u => (match u with
    | .none => true
    | _ => false)
  | .bl b, u => (match u with
    | .bool c => b == c
    | _ => false)
  | .int i, u => (match u with
    | .int j _ => decide (i = j)
    | _ => false)
  | .str x, u => (match u with
    | .str y _ => decide (x = y)
    | _ => false)
  | .tup ds, u => (match u with
    | .ref a => (match K.lookup a with
      | some ⟨.type c, _, .seq its _, _⟩ => decide (c = "tuple") && (decide (its.size ≤ sizeLine) && gdBs K ds its.toList)
      | _ => false)
    | _ => false)
  | _, _ => false
def gdBs (K : PySem.W.Frag) : List D → List Value → Bool
  | [], us => us.isEmpty
  | d :: ds, us => (match us with
    | u :: us => gdB K d u && gdBs K ds us
    | [] => false)
end
section
variable {K : PySem.W.Frag}
mutual
theorem gdB_ok : ∀ (d : D) (u : Value), gdB K d u = true → ∃ v : V, RelV v u ∧ ∀ (w : World) (G : Gho), RD ⟨K, w⟩ G v d
  | .non, u, h => by
    cases u with
    | none => exact ⟨.non, rfl, fun _ _ => .non⟩
    | _ => exact absurd h Bool.false_ne_true
  | .bl b, u, h => by
    cases u with
    | bool c =>
      have e : b = c := eq_of_beq (show (b == c) = true from h)
      subst e
      exact ⟨.bl b, rfl, fun _ _ => .bl b⟩
    | _ => exact absurd h Bool.false_ne_true
  | .int i, u, h => by
    cases u with
    | int j t =>
      have e : i = j := of_decide_eq_true h
      subst e
      exact ⟨.int i, ⟨t, rfl⟩, fun _ _ => .int i⟩
    | _ => exact absurd h Bool.false_ne_true
  | .str x, u, h => by
    cases u with
    | str y t =>
      have e : x = y := of_decide_eq_true h
      subst e
      exact ⟨.str x, ⟨t, rfl⟩, fun _ _ => .str x⟩
    | _ => exact absurd h Bool.false_ne_true
  | .tup ds, u, h => by
    cases u with
    | ref a =>
      have h1 : (match K.lookup a with
        | some ⟨.type c, _, .seq its _, _⟩ => decide (c = "tuple") && (decide (its.size ≤ sizeLine) && gdBs K ds its.toList)
        | _ => false) = true := h
      cases q : K.lookup a with
      | none =>
        rw [q] at h1
        cases h1
      | some o =>
        obtain ⟨oc, od, dt, osl⟩ := o
        rw [q] at h1
        cases oc with
        | type c =>
          cases dt with
          | seq its n =>
            obtain ⟨k1, k2⟩ := Bool.and_eq_true_iff.mp (show (decide (c = "tuple") && (decide (its.size ≤ sizeLine) && gdBs K ds its.toList)) = true from h1)
            obtain ⟨k3, k4⟩ := Bool.and_eq_true_iff.mp k2
            obtain ⟨vs, r1, r2⟩ := gdBs_ok ds its.toList k4
            exact ⟨.ref a, rfl, fun w G => .tup (.inr ⟨_, its, n, q, congrArg Value.type (of_decide_eq_true k1), rfl, of_decide_eq_true k3, r1⟩) (r2 w G)⟩
          | _ => cases h1
        | _ => cases dt <;> cases h1
    | _ => exact absurd h Bool.false_ne_true
  | .lst _, u, h => absurd h Bool.false_ne_true
  | .dk _ _, u, h => absurd h Bool.false_ne_true
  | .dt _ _, u, h => absurd h Bool.false_ne_true
  | .ref _, u, h => absurd h Bool.false_ne_true
  | .box _, u, h => absurd h Bool.false_ne_true
  | .ty _, u, h => absurd h Bool.false_ne_true
  | .scr _, u, h => absurd h Bool.false_ne_true
theorem gdBs_ok : ∀ (ds : List D) (us : List Value), gdBs K ds us = true → ∃ vs : List V, Vals vs us ∧ ∀ (w : World) (G : Gho), RDs ⟨K, w⟩ G vs ds
  | [], us, h => by
    cases us with
    | nil => exact ⟨[], .nil, fun _ _ => .nil⟩
    | cons _ _ => exact absurd h Bool.false_ne_true
  | d :: ds, us, h => by
    cases us with
    | nil => exact absurd h Bool.false_ne_true
    | cons u us =>
      obtain ⟨h1, h2⟩ := Bool.and_eq_true_iff.mp (show (gdB K d u && gdBs K ds us) = true from h)
      obtain ⟨v, r1, r2⟩ := gdB_ok d u h1
      obtain ⟨vs, r3, r4⟩ := gdBs_ok ds us h2
      exact ⟨v :: vs, .cons r1 r3, fun w G => .cons (r2 w G) (r4 w G)⟩
end
end
/-- a constant of the module -/
def glB (K : PySem.W.Frag) (p : Str × D) : Bool := match PySem.W.nsIn K mainGlobals p.1 with
  | some (some u) => gdB K p.2 u
  | _ => false
theorem glB_ok {K : PySem.W.Frag} {h : Heap} {mg : Str → Option Value} (X : K.In h) (G : h.Ns mainGlobals mg) {p : Str × D} (c : glB K p = true) : GlOk K mg p := by
  unfold glB at c
  cases e : PySem.W.nsIn K mainGlobals p.1 with
  | none =>
    rw [e] at c
    cases c
  | some r =>
    rw [e] at c
    cases r with
    | none => cases c
    | some u =>
      obtain ⟨v, r1, r2⟩ := gdB_ok p.2 u c
      exact ⟨u, v, PySem.W.mg_of X G e, r1, r2⟩
def entD (e : Ent) : He.DefD := ⟨((e.d.name : Str), none), (e.d.name : Str), (e.d.name : Str), defArgs e.st, defBody e.st, defScope e.st, [], []⟩
def faOf (ents : List Ent) (bl : List Str) : List He.Fa := ents.map (fun e => He.Fa.glo (e.d.name : Str)) ++ bl.map He.Fa.free
abbrev AlX : Type := He.AlD × Bool
def obsX (ents : List Ent) (bl : List Str) (gl : List (Str × D)) (K : PySem.W.Frag) : AlX := (He.obsD (faOf ents bl) (ents.map entD) K, gl.all fun p => glB K p)
def valXX (ents : List Ent) : AlX := (He.valD (ents.map entD), true)
def SaysX (ents : List Ent) (bl : List Str) (gl : List (Str × D)) (K : PySem.W.Frag) : Prop := obsX ents bl gl K = valXX ents
def obsXG (n : Nat) (ents : List Ent) (bl : List Str) (gl : List (Str × D)) (g : Addr → Option Obj) : AlX := obsX ents bl gl (He.frG g (He.asD g n))
def hookX (n : Nat) (ents : List Ent) (bl : List Str) (gl : List (Str × D)) : PySem.W.Hook where
  α := AlX
  obs := fun s => obsXG n ents bl gl s.heap.get?
  val := fun _ => valXX ents
  says := fun _ h => ∃ K : PySem.W.Frag, K.In h ∧ SaysX ents bl gl K
  of := fun _ _ e => ⟨_, He.frG_in, e⟩
  keeps := fun _ _ _ ⟨K, hK, c⟩ k => ⟨K, PySem.W.Frag.In.keeps hK k, c⟩
theorem obsXG_eq {n : Nat} {ents : List Ent} {bl : List Str} {gl : List (Str × D)} {g : Addr → Option Obj} {s : Shared} (h : ∀ a, g a = s.heap.get? a) : obsXG n ents bl gl g = (hookX n ents bl gl).obs s := by
  have e : g = s.heap.get? := funext h
  rw [e] <;> rfl
/-- the arguments are bound by place -/
def BindP (e : Ent) : Prop := ∀ (kV doc pm : Value) (an : Option Addr) (cdv ct : Value) (us : List Value), us.length = e.ps.length →
  bindArgs (PySem.W.fnOf (e.d.name : Str) (e.d.name : Str) (defArgs e.st) (defBody e.st) (defScope e.st) .none kV doc pm an cdv ct) ⟨us, []⟩ = pure (e.ps.zip us)
section
variable {K : PySem.W.Frag} {h : Heap} {mg : Str → Option Value} {ents : List Ent} {bl : List Str} {gl : List (Str × D)}
theorem SaysX.d (c : SaysX ents bl gl K) : He.SaysD (faOf ents bl) (ents.map entD) K := congrArg (fun z : AlX => z.1) c
theorem SaysX.g (c : SaysX ents bl gl K) : (gl.all fun p => glB K p) = true := congrArg (fun z : AlX => z.2) c
theorem SaysX.gls (X : K.In h) (G : h.Ns mainGlobals mg) (c : SaysX ents bl gl K) : ∀ p ∈ gl, GlOk K mg p := fun p hp => glB_ok X G (List.all_eq_true.mp c.g p hp)
theorem SaysX.bls (X : K.In h) (G : h.Ns mainGlobals mg) (c : SaysX ents bl gl K) : ∀ b ∈ bl, mg b = none := fun b hb => by
  have hm : He.Fa.free b ∈ faOf ents bl := List.mem_append_right _ (List.mem_map.mpr ⟨b, hb, rfl⟩)
  obtain ⟨i, hi⟩ := List.getElem?_of_mem hm
  exact He.free_ok X G (c.d.fact i hi)
theorem SaysX.ent (X : K.In h) (G : h.Ns mainGlobals mg) (c : SaysX ents bl gl K) {e : Ent} (he : e ∈ ents) (hb : BindP e) : ∃ f fd, EntAt K mg e f fd := by
  have hm : He.Fa.glo (e.d.name : Str) ∈ faOf ents bl := List.mem_append_left _ (List.mem_map.mpr ⟨e, he, rfl⟩)
  obtain ⟨i, hi⟩ := List.getElem?_of_mem hm
  have h1 := He.glo_ok X G (c.d.fact i hi)
  obtain ⟨j, hj⟩ := List.getElem?_of_mem (List.mem_map.mpr ⟨e, he, rfl⟩ : entD e ∈ ents.map entD)
  obtain ⟨fd, F⟩ := c.d.def_ j hj
  have F' : FunD K (e.d.name : Str) (e.d.name : Str) (defArgs e.st) (defBody e.st) (defScope e.st) [] [] (He.ga K (e.d.name : Str)) fd := F
  exact ⟨_, fd, F', h1, F'.bindsN hb⟩
end
/-- the law's facts, from the head's -/
theorem law_facts {P : Program} {w : World} {K : PySem.W.Frag} {h : Heap} {mg : Str → Option Value} {fa : Addr} {ents : List Ent} {bl : List Str} {gl : List (Str × D)} {fl : List String} {tab : String → Option Df} {k : Nat} {e : Ent} {x : Str}
    (X : K.In h) (G : h.Ns mainGlobals mg) (hfa : mg (e.d.name : Str) = some (.ref fa)) (c : SaysX ents bl gl K) (hE : ∀ e ∈ ents, entB bl gl fl e = true) (hB : ∀ e ∈ ents, BindP e) (hT : ∀ e ∈ ents, tab e.d.name = some e.d) (hF : ∀ x ∈ fl, ∃ e ∈ ents, e.d.name = x)
    (he : e ∈ ents) (hp : e.ps = [x]) :
    ∃ fd : FuncData, (∀ (s : Shared) (u : Value), BindsTo s fd ⟨[u], []⟩ [(x, u)]) ∧ ∀ base : Heap, K.In base → base.Ns mainGlobals mg → FnG P w K mg base (L2.CX P w) k fa fd [x] (spD ⟨⟨K, w⟩, []⟩ (callD tab k e.d.name)) := by
  obtain ⟨f, fd, A⟩ := c.ent X G he (hB e he)
  have e1 := hfa.symm.trans A.mg
  cases e1
  refine ⟨fd, fun s u => ?_, fun base _ _ => ?_⟩
  · obtain ⟨oc, od, dV, kV, doc, pm, an, cdv, ct, osl, rfl, lk, hcd, hD, hK⟩ := A.fn.ex
    rcases hD with ⟨_, rfl⟩ | ⟨z, _⟩
    · have q := hB e he kV doc pm an cdv ct [u] (by rw [hp]; rfl)
      rw [hp] at q
      exact .of_eq q
    · exact absurd rfl z
  · have q := fns_ok (P := P) (w := w) (base := base) (ct := []) (tab := tab) (fl := fl) ents (fun e he => entB_ok (hE e he)) hT (fun e he => c.ent X G he (hB e he)) hF (c.bls X G) (c.gls X G) k e he fa fd A
    rw [hp] at q
    exact q
theorem cx_none {P : Program} {w : World} {H : Hp} {s : Shared} {e : Value} {s' : Shared} : L2.CX P w [] H s (fun _ _ _ => False) e s' → False := fun h => by
  obtain ⟨_, _, _, _, _, _, _, _, _, _, _, _, z⟩ := h
  exact z
/-- a law's end: over the head's facts -/
theorem walk_ofD {l : PySem.W.OpenLaw} {n k : Nat} {q : Program} {loose : List Str} {XP : (Str → Option Value) → Heap → Prop} {d : DefRec} {x : Str} {ents : List Ent} {bl : List Str} {gl : List (Str × D)} {fl : List String} {tab : String → Option Df} {m : Nat} {e : Ent}
    (hn : l.most = some n) (hn2 : n ≤ sizeLine) (hdf : d.params.defaults = []) (hr : Room k callerA) (hd : d.name = (e.d.name : Str))
    (hE : ents.all (entB bl gl fl) = true) (hB : ∀ e ∈ ents, BindP e) (hT : ∀ e ∈ ents, tab e.d.name = some e.d) (hF : ∀ x ∈ fl, ∃ e ∈ ents, e.d.name = x) (he : e ∈ ents) (hp : e.ps = [x])
    (law : ∀ ns : List Int, ns.length ≤ n → callD tab k e.d.name [.scr ns] (fun _ => none) (fun v _ => v = .bl true) fun _ _ _ => False) :
    PySem.W.WalkO q loose XP (hookX m ents bl gl).says l.row.toRowW d [] (fun f vs => PySem.call f vs) := by
  refine Att.attach_call hn hdf fun w s₀ s₁ mg mb fa o pm cd doc a vs ns G Y ho hd' hcd hmg hobj hints hlen hg => ?_
  obtain ⟨K, KX, c⟩ := Y
  rw [hd] at hmg
  obtain ⟨fd, hb, hF'⟩ := law_facts (P := l.prog) (w := w) (k := k) (tab := tab) (fl := fl) KX G.T.g hmg c (List.all_eq_true.mp hE) hB hT hF he hp
  exact law_callG KX G.T.g G.T.b G.T.builtins G.T.nolimit hg hobj hints (Nat.le_trans hlen hn2) hr hF' hb (fun H hS => law_sp hS (law ns hlen)) fun H e s' => cx_none
end Deep

/-! Cb: the code of the defs that many laws share. -/
namespace U
open PySem L2 Deep
def c_common : Df := ⟨"common", 2, 2, (.cons (.par 0 1 (.bi .abs .f (.cons (.var 0) .nil)) (.bi .abs .f (.cons (.var 1) .nil))) (.cons (.whl (.cmp .gt (.var 1) (.cst (.int 0))) (.cons (.par 0 1 (.var 1) (.op .mod .f (.var 0) (.var 1))) .nil)) (.cons (.ret (.var 0)) .nil)))⟩
def c_fraction : Df := ⟨"fraction", 2, 3, (.cons (.asg (.nm 2) (.call "common" (.cons (.var 0) (.cons (.var 1) .nil)))) (.cons (.ite (.cmp .lt (.var 1) (.cst (.int 0))) (.cons (.asg (.nm 2) (.op .sub .f (.cst (.int 0)) (.var 2))) .nil) .nil) (.cons (.ret (.tup (.cons (.op .fdiv .f (.var 0) (.var 2)) (.cons (.op .fdiv .f (.var 1) (.var 2)) .nil)))) .nil)))⟩
def c_plus : Df := ⟨"plus", 2, 2, (.cons (.ret (.call "fraction" (.cons (.op .add .f (.op .mul .f (.ix (.var 0) (.cst (.int 0))) (.ix (.var 1) (.cst (.int 1)))) (.op .mul .f (.ix (.var 1) (.cst (.int 0))) (.ix (.var 0) (.cst (.int 1))))) (.cons (.op .mul .f (.ix (.var 0) (.cst (.int 1))) (.ix (.var 1) (.cst (.int 1)))) .nil)))) .nil)⟩
def c_less : Df := ⟨"less", 2, 2, (.cons (.ret (.call "fraction" (.cons (.op .sub .f (.op .mul .f (.ix (.var 0) (.cst (.int 0))) (.ix (.var 1) (.cst (.int 1)))) (.op .mul .f (.ix (.var 1) (.cst (.int 0))) (.ix (.var 0) (.cst (.int 1))))) (.cons (.op .mul .f (.ix (.var 0) (.cst (.int 1))) (.ix (.var 1) (.cst (.int 1)))) .nil)))) .nil)⟩
def c_times : Df := ⟨"times", 2, 2, (.cons (.ret (.call "fraction" (.cons (.op .mul .f (.ix (.var 0) (.cst (.int 0))) (.ix (.var 1) (.cst (.int 0)))) (.cons (.op .mul .f (.ix (.var 0) (.cst (.int 1))) (.ix (.var 1) (.cst (.int 1)))) .nil)))) .nil)⟩
def c_over : Df := ⟨"over", 2, 2, (.cons (.ret (.call "fraction" (.cons (.op .mul .f (.ix (.var 0) (.cst (.int 0))) (.ix (.var 1) (.cst (.int 1)))) (.cons (.op .mul .f (.ix (.var 0) (.cst (.int 1))) (.ix (.var 1) (.cst (.int 0)))) .nil)))) .nil)⟩
def c__law_box : Df := ⟨"_law_box", 2, 4, (.cons (.asg (.nm 2) (.op .add .f (.op .mul .f (.cst (.int 7919)) (.var 1)) (.cst (.int 11)))) (.cons (.ite (.cmp .lt (.var 1) (.bi .len .f (.cons (.var 0) .nil))) (.cons (.asg (.nm 2) (.ix (.var 0) (.var 1))) .nil) (.cons (.ite (.cmp .gt (.bi .len .f (.cons (.var 0) .nil)) (.cst (.int 0))) (.cons (.asg (.nm 2) (.op .add .f (.var 2) (.op .mul .f (.op .mod
  .f (.ix (.var 0) (.op .mod .f (.var 1) (.bi .len .f (.cons (.var 0) .nil)))) (.cst (.int 2147483629))) (.cst (.int 69623))))) .nil) .nil) .nil)) (.cons (.asg (.nm 3) (.op .add .f (.op .mod .f (.op .add .f (.op .mul .f (.op .mod .f (.var 2) (.cst (.int 2147483629))) (.cst (.int 48271))) (.op .mul .f (.cst (.int 40692)) (.var 1))) (.cst (.int 2147483629))) (.cst (.int 1)))) (.cons (.ret (.lst .b
  (.cons (.op .mul .f (.var 2) (.bi .int .f (.cons (.cmp .ge (.var 2) (.op .pow .f (.cst (.int 10)) (.cst (.int 18)))) .nil))) (.cons (.var 3) .nil)))) .nil))))⟩
def c__law_take : Df := ⟨"_law_take", 2, 4, (.cons (.ite (.cmp .gt (.ix (.var 0) (.cst (.int 0))) (.cst (.int 0))) (.cons (.asg (.nm 2) (.op .mod .f (.ix (.var 0) (.cst (.int 0))) (.var 1))) (.cons (.sub (.var 0) (.cst (.int 0)) (.op .fdiv .f (.ix (.var 0) (.cst (.int 0))) (.var 1))) (.cons (.ret (.var 2)) .nil))) .nil) (.cons (.asg (.nm 3) (.op .mod .f (.op .mul .f (.ix (.var 0) (.cst (.int 1)))
  (.cst (.int 69623))) (.cst (.int 2147483647)))) (.cons (.sub (.var 0) (.cst (.int 1)) (.op .add .f (.op .mod .f (.op .add .f (.op .mul .f (.var 3) (.cst (.int 48271))) (.cst (.int 30103))) (.cst (.int 2147483629))) (.cst (.int 1)))) (.cons (.ret (.op .mod .f (.op .fdiv .f (.op .add .f (.op .mul .f (.var 3) (.cst (.int 2147483647))) (.ix (.var 0) (.cst (.int 1)))) (.cst (.int 8191))) (.var 1)))
  .nil))))⟩
def c__law_fraction : Df := ⟨"_law_fraction", 2, 4, (.cons (.asg (.nm 2) (.bi .abs .f (.cons (.var 0) .nil))) (.cons (.asg (.nm 3) (.bi .abs .f (.cons (.var 1) .nil))) (.cons (.whl (.cmp .ne (.var 3) (.cst (.int 0))) (.cons (.par 2 3 (.var 3) (.op .mod .f (.var 2) (.var 3))) .nil)) (.cons (.ite (.cmp .lt (.var 1) (.cst (.int 0))) (.cons (.asg (.nm 2) (.op .sub .f (.cst (.int 0)) (.var 2))) .nil)
  .nil) (.cons (.ret (.tup (.cons (.op .fdiv .f (.var 0) (.var 2)) (.cons (.op .fdiv .f (.var 1) (.var 2)) .nil)))) .nil)))))⟩
def c_fraction_text : Df := ⟨"fraction_text", 1, 1, (.cons (.ite (.cmp .eq (.ix (.var 0) (.cst (.int 1))) (.cst (.int 1))) (.cons (.ret (.bi .str .f (.cons (.ix (.var 0) (.cst (.int 0))) .nil))) .nil) .nil) (.cons (.ret (.op .add .f (.op .add .f (.bi .str .f (.cons (.ix (.var 0) (.cst (.int 0))) .nil)) (.cst (.str "/"))) (.bi .str .f (.cons (.ix (.var 0) (.cst (.int 1))) .nil)))) .nil))⟩
def c_is_number : Df := ⟨"is_number", 1, 2, (.cons (.ite (.or (.cmp .eq (.bi .len .f (.cons (.var 0) .nil)) (.cst (.int 0))) (.cons (.and (.cmp .eq (.ix (.var 0) (.cst (.int 0))) (.cst (.str "0"))) (.cons (.cmp .gt (.bi .len .f (.cons (.var 0) .nil)) (.cst (.int 1))) .nil)) .nil)) (.cons (.ret (.cst (.bl false))) .nil) .nil) (.cons (.ret (.bi .all .f (.cons (.lc .f [("sign", 1)] (.ex (.var 0)) (.nm
  1) .non (.cmp .inn (.var 1) (.glb "FIGURES_fractions" (.str "0123456789")))) .nil))) .nil))⟩
def c_poly : Df := ⟨"poly", 1, 4, (.cons (.asg (.nm 1) (.dnew true)) (.cons (.for (.tp (.cons (.nm 2) (.cons (.nm 3) .nil))) (.ex (.var 0)) (.cons (.sub (.var 1) (.var 2) (.call "plus" (.cons (.dget (.var 1) (.var 2) (.glb "NOUGHT" (.tup [(.int 0), (.int 1)]))) (.cons (.var 3) .nil)))) .nil)) (.frz 1 (.cons (.ret (.bi .tup .f (.cons (.lc .f [("powers", 2)] (.ex (.bi .sorted .f (.cons (.var 1)
  .nil))) (.nm 2) (.som (.cmp .ne (.ix (.var 1) (.var 2)) (.glb "NOUGHT" (.tup [(.int 0), (.int 1)])))) (.tup (.cons (.var 2) (.cons (.ix (.var 1) (.var 2)) .nil)))) .nil))) .nil))))⟩
def c_turned : Df := ⟨"turned", 1, 3, (.cons (.ret (.bi .tup .f (.cons (.lc .f [("powers", 1), ("f", 2)] (.ex (.var 0)) (.tp (.cons (.nm 1) (.cons (.nm 2) .nil))) .non (.tup (.cons (.var 1) (.cons (.call "less" (.cons (.glb "NOUGHT" (.tup [(.int 0), (.int 1)])) (.cons (.var 2) .nil))) .nil)))) .nil))) .nil)⟩
def c_poly_plus : Df := ⟨"poly_plus", 2, 2, (.cons (.ret (.call "poly" (.cons (.op .add .f (.var 0) (.var 1)) .nil))) .nil)⟩
def c_poly_less : Df := ⟨"poly_less", 2, 2, (.cons (.ret (.call "poly" (.cons (.op .add .f (.var 0) (.call "turned" (.cons (.var 1) .nil))) .nil))) .nil)⟩
def c_powers_added : Df := ⟨"powers_added", 2, 4, (.cons (.ret (.bi .tup .f (.cons (.lc .f [("here", 2), ("there", 3)] (.zip (.var 0) (.var 1)) (.tp (.cons (.nm 2) (.cons (.nm 3) .nil))) .non (.op .add .f (.var 2) (.var 3))) .nil))) .nil)⟩
def c_poly_times : Df := ⟨"poly_times", 2, 7, (.cons (.asg (.nm 2) (.lst .t .nil)) (.cons (.for (.tp (.cons (.nm 3) (.cons (.nm 4) .nil))) (.ex (.var 0)) (.cons (.exp (.mt .extend (.var 2) (.cons (.lc .f [("more", 5), ("g", 6)] (.ex (.var 1)) (.tp (.cons (.nm 5) (.cons (.nm 6) .nil))) .non (.tup (.cons (.call "powers_added" (.cons (.var 3) (.cons (.var 5) .nil))) (.cons (.call "times" (.cons (.var
  4) (.cons (.var 6) .nil))) .nil)))) .nil))) .nil)) (.cons (.ret (.call "poly" (.cons (.frz (.var 2)) .nil))) .nil)))⟩
def c_power_of : Df := ⟨"power_of", 2, 4, (.cons (.asg (.nm 2) (.glb "ONE_fractions" (.tup [(.int 1), (.int 1)]))) (.cons (.for (.nm 3) (.rng (.cons (.var 1) .nil)) (.cons (.asg (.nm 2) (.call "times" (.cons (.var 2) (.cons (.var 0) .nil)))) .nil)) (.cons (.ret (.var 2)) .nil)))⟩
def c_value : Df := ⟨"value", 2, 7, (.cons (.asg (.nm 2) (.glb "NOUGHT_fractions" (.tup [(.int 0), (.int 1)]))) (.cons (.for (.tp (.cons (.nm 3) (.cons (.nm 4) .nil))) (.ex (.var 0)) (.cons (.for (.tp (.cons (.nm 5) (.cons (.nm 6) .nil))) (.zip (.var 3) (.var 1)) (.cons (.asg (.nm 4) (.call "times" (.cons (.var 4) (.cons (.call "power_of" (.cons (.var 6) (.cons (.var 5) .nil))) .nil)))) .nil))
  (.cons (.asg (.nm 2) (.call "plus" (.cons (.var 2) (.cons (.var 4) .nil)))) .nil))) (.cons (.ret (.var 2)) .nil)))⟩
def c__law_plus : Df := ⟨"_law_plus", 2, 2, (.cons (.ret (.call "_law_fraction" (.cons (.op .add .f (.op .mul .f (.ix (.var 0) (.cst (.int 0))) (.ix (.var 1) (.cst (.int 1)))) (.op .mul .f (.ix (.var 1) (.cst (.int 0))) (.ix (.var 0) (.cst (.int 1))))) (.cons (.op .mul .f (.ix (.var 0) (.cst (.int 1))) (.ix (.var 1) (.cst (.int 1)))) .nil)))) .nil)⟩
def c__law_times : Df := ⟨"_law_times", 2, 2, (.cons (.ret (.call "_law_fraction" (.cons (.op .mul .f (.ix (.var 0) (.cst (.int 0))) (.ix (.var 1) (.cst (.int 0)))) (.cons (.op .mul .f (.ix (.var 0) (.cst (.int 1))) (.ix (.var 1) (.cst (.int 1)))) .nil)))) .nil)⟩
def c__law_poly_add : Df := ⟨"_law_poly_add", 3, 7, (.cons (.asg (.nm 3) (.bi .dic .t (.cons (.var 0) .nil))) (.cons (.for (.nm 4) (.ex (.var 1)) (.cons (.asg (.nm 5) (.tup (.cons (.op .mul .f (.var 2) (.ix (.ix (.var 1) (.var 4)) (.cst (.int 0)))) (.cons (.ix (.ix (.var 1) (.var 4)) (.cst (.int 1))) .nil)))) (.cons (.sub (.var 3) (.var 4) (.call "_law_plus" (.cons (.dget (.var 3) (.var 4) (.tup
  (.cons (.cst (.int 0)) (.cons (.cst (.int 1)) .nil)))) (.cons (.var 5) .nil)))) .nil))) (.cons (.asg (.nm 6) (.dnew true)) (.frz 3 (.cons (.for (.nm 4) (.ex (.var 3)) (.cons (.ite (.cmp .ne (.ix (.ix (.var 3) (.var 4)) (.cst (.int 0))) (.cst (.int 0))) (.cons (.sub (.var 6) (.var 4) (.ix (.var 3) (.var 4))) .nil) .nil) .nil)) (.cons (.ret (.frz (.var 6))) .nil))))))⟩
def c__law_poly_mult : Df := ⟨"_law_poly_mult", 2, 10, (.cons (.asg (.nm 2) (.dnew true)) (.cons (.for (.nm 3) (.ex (.var 0)) (.cons (.for (.nm 4) (.ex (.var 1)) (.cons (.asg (.nm 5) (.bi .tup .f (.cons (.lc .f [("_law_a", 8), ("_law_b", 9)] (.zip (.var 3) (.var 4)) (.tp (.cons (.nm 8) (.cons (.nm 9) .nil))) .non (.op .add .f (.var 8) (.var 9))) .nil))) (.cons (.asg (.nm 6) (.call "_law_times"
  (.cons (.ix (.var 0) (.var 3)) (.cons (.ix (.var 1) (.var 4)) .nil)))) (.cons (.sub (.var 2) (.var 5) (.call "_law_plus" (.cons (.dget (.var 2) (.var 5) (.tup (.cons (.cst (.int 0)) (.cons (.cst (.int 1)) .nil)))) (.cons (.var 6) .nil)))) .nil)))) .nil)) (.cons (.asg (.nm 7) (.dnew true)) (.frz 2 (.cons (.for (.nm 5) (.ex (.var 2)) (.cons (.ite (.cmp .ne (.ix (.ix (.var 2) (.var 5)) (.cst (.int
  0))) (.cst (.int 0))) (.cons (.sub (.var 7) (.var 5) (.ix (.var 2) (.var 5))) .nil) .nil) .nil)) (.cons (.ret (.frz (.var 7))) .nil))))))⟩
def c__law_poly_told : Df := ⟨"_law_poly_told", 1, 2, (.cons (.ret (.bi .tup .f (.cons (.bi .sorted .f (.cons (.lc .f [("_law_powers", 1)] (.ex (.var 0)) (.nm 1) .non (.tup (.cons (.var 1) (.cons (.ix (.var 0) (.var 1)) .nil)))) .nil)) .nil))) .nil)⟩
def c__law_number : Df := ⟨"_law_number", 1, 2, (.cons (.asg (.nm 1) (.call "_law_take" (.cons (.var 0) (.cons (.cst (.int 12)) .nil)))) (.cons (.ite (.cmp .lt (.var 1) (.cst (.int 7))) (.cons (.ret (.ix (.lst .f (.cons (.tup (.cons (.cst (.int 0)) (.cons (.cst (.int 1)) .nil))) (.cons (.tup (.cons (.cst (.int 1)) (.cons (.cst (.int 1)) .nil))) (.cons (.tup (.cons (.cst (.int 1)) (.cons (.cst (.int
  1)) .nil))) (.cons (.tup (.cons (.neg (.cst (.int 1))) (.cons (.cst (.int 1)) .nil))) (.cons (.tup (.cons (.cst (.int 2)) (.cons (.cst (.int 1)) .nil))) (.cons (.tup (.cons (.cst (.int 1)) (.cons (.cst (.int 2)) .nil))) (.cons (.tup (.cons (.neg (.cst (.int 2))) (.cons (.cst (.int 3)) .nil))) .nil)))))))) (.var 1))) .nil) .nil) (.cons (.ite (.cmp .lt (.var 1) (.cst (.int 11))) (.cons (.ret (.call
  "_law_fraction" (.cons (.op .sub .f (.call "_law_take" (.cons (.var 0) (.cons (.cst (.int 19)) .nil))) (.cst (.int 9))) (.cons (.op .add .f (.cst (.int 1)) (.call "_law_take" (.cons (.var 0) (.cons (.cst (.int 4)) .nil)))) .nil)))) .nil) .nil) (.cons (.ret (.call "_law_fraction" (.cons (.op .sub .f (.call "_law_take" (.cons (.var 0) (.cons (.cst (.int 1999999)) .nil))) (.cst (.int 999999)))
  (.cons (.op .add .f (.cst (.int 1)) (.call "_law_take" (.cons (.var 0) (.cons (.cst (.int 4)) .nil)))) .nil)))) .nil))))⟩
def c__law_small : Df := ⟨"_law_small", 1, 1, (.cons (.ret (.call "_law_fraction" (.cons (.op .sub .f (.call "_law_take" (.cons (.var 0) (.cons (.cst (.int 11)) .nil))) (.cst (.int 5))) (.cons (.op .add .f (.cst (.int 1)) (.call "_law_take" (.cons (.var 0) (.cons (.cst (.int 3)) .nil)))) .nil)))) .nil)⟩
def c__law_point : Df := ⟨"_law_point", 2, 3, (.cons (.ret (.bi .tup .f (.cons (.lc .f [("_law_k", 2)] (.rng (.cons (.var 1) .nil)) (.nm 2) .non (.call "_law_small" (.cons (.var 0) .nil))) .nil))) .nil)⟩
def c__law_drawn_poly : Df := ⟨"_law_drawn_poly", 4, 9, (.cons (.asg (.nm 4) (.dnew true)) (.cons (.for (.nm 5) (.rng (.cons (.call "_law_take" (.cons (.var 0) (.cons (.op .add .f (.var 2) (.cst (.int 1))) .nil))) .nil)) (.cons (.asg (.nm 6) (.call "_law_number" (.cons (.var 0) .nil))) (.cons (.asg (.nm 7) (.bi .tup .f (.cons (.lc .f [("_law_j", 8)] (.rng (.cons (.var 1) .nil)) (.nm 8) .non (.call
  "_law_take" (.cons (.var 0) (.cons (.var 3) .nil)))) .nil))) (.cons (.ite (.cmp .ne (.ix (.var 6) (.cst (.int 0))) (.cst (.int 0))) (.cons (.sub (.var 4) (.var 7) (.var 6)) .nil) .nil) .nil)))) (.cons (.ret (.frz (.var 4))) .nil)))⟩
def c_degree : Df := ⟨"degree", 1, 3, (.cons (.ret (.mxd (.lc .f [("powers", 1), ("f", 2)] (.ex (.var 0)) (.tp (.cons (.nm 1) (.cons (.nm 2) .nil))) .non (.bi .sum .f (.cons (.var 1) .nil))) (.neg (.cst (.int 1))))) .nil)⟩
def c_piece : Df := ⟨"piece", 2, 3, (.cons (.ret (.bi .tup .f (.cons (.lc .f [("pair", 2)] (.ex (.var 0)) (.nm 2) (.som (.cmp .eq (.bi .sum .f (.cons (.ix (.var 2) (.cst (.int 0))) .nil)) (.var 1))) (.var 2)) .nil))) .nil)⟩
def c_choices : Df := ⟨"choices", 1, 4, (.cons (.asg (.nm 1) (.lst .f (.cons (.cst (.int 1)) .nil))) (.cons (.for (.nm 2) (.rng (.cons (.var 0) .nil)) (.cons (.asg (.nm 1) (.op .add .f (.op .add .f (.lst .f (.cons (.cst (.int 1)) .nil)) (.lc .f [("j", 3)] (.rng (.cons (.var 2) .nil)) (.nm 3) .non (.op .add .f (.ix (.var 1) (.var 3)) (.ix (.var 1) (.op .add .f (.var 3) (.cst (.int 1))))))) (.lst .f
  (.cons (.cst (.int 1)) .nil)))) .nil)) (.cons (.ret (.var 1)) .nil)))⟩
def c_moved_letter : Df := ⟨"moved_letter", 3, 10, (.cons (.asg (.nm 3) (.lst .t .nil)) (.cons (.for (.tp (.cons (.nm 4) (.cons (.nm 5) .nil))) (.ex (.var 0)) (.cons (.asg (.nm 6) (.ix (.var 4) (.var 1))) (.cons (.asg (.nm 7) (.call "choices" (.cons (.var 6) .nil))) (.cons (.for (.nm 8) (.rng (.cons (.op .add .f (.var 6) (.cst (.int 1))) .nil)) (.cons (.asg (.nm 9) (.call "times" (.cons (.call
  "times" (.cons (.var 5) (.cons (.tup (.cons (.ix (.var 7) (.var 8)) (.cons (.cst (.int 1)) .nil))) .nil))) (.cons (.call "power_of" (.cons (.var 2) (.cons (.op .sub .f (.var 6) (.var 8)) .nil))) .nil)))) (.cons (.exp (.mt .append (.var 3) (.cons (.tup (.cons (.op .add .f (.op .add .f (.sl .f (.var 4) .non (.som (.var 1))) (.tup (.cons (.var 8) .nil))) (.sl .f (.var 4) (.som (.op .add .f (.var 1)
  (.cst (.int 1)))) .non)) (.cons (.var 9) .nil))) .nil))) .nil))) .nil)))) (.cons (.ret (.call "poly" (.cons (.frz (.var 3)) .nil))) .nil)))⟩
def c_moved : Df := ⟨"moved", 2, 4, (.cons (.for (.tp (.cons (.nm 2) (.cons (.nm 3) .nil))) (.enm (.var 1)) (.cons (.asg (.nm 0) (.call "moved_letter" (.cons (.var 0) (.cons (.var 2) (.cons (.var 3) .nil))))) .nil)) (.cons (.ret (.var 0)) .nil))⟩
def c__law_poly_number : Df := ⟨"_law_poly_number", 2, 2, (.cons (.ite (.cmp .eq (.ix (.var 1) (.cst (.int 0))) (.cst (.int 0))) (.cons (.ret (.frz (.dnew true))) .nil) .nil) (.cons (.ret (.frz (.ddsp (.op .mul .f (.tup (.cons (.cst (.int 0)) .nil)) (.var 0)) (.var 1)))) .nil))⟩
def c__law_poly_letter : Df := ⟨"_law_poly_letter", 2, 2, (.cons (.ret (.frz (.ddsp (.op .add .f (.op .add .f (.op .mul .f (.tup (.cons (.cst (.int 0)) .nil)) (.var 1)) (.tup (.cons (.cst (.int 1)) .nil))) (.op .mul .f (.tup (.cons (.cst (.int 0)) .nil)) (.op .sub .f (.op .sub .f (.var 0) (.var 1)) (.cst (.int 1))))) (.tup (.cons (.cst (.int 1)) (.cons (.cst (.int 1)) .nil)))))) .nil)⟩
def c_parted_by : Df := ⟨"parted_by", 2, 11, (.cons (.asg (.nm 2) (.lst .t .nil)) (.cons (.asg (.tp (.cons (.nm 3) (.cons (.nm 4) .nil))) (.ix (.var 1) (.neg (.cst (.int 1))))) (.cons (.whl (.cmp .gt (.bi .len .f (.cons (.var 0) .nil)) (.cst (.int 0))) (.cons (.asg (.tp (.cons (.nm 5) (.cons (.nm 6) .nil))) (.ix (.var 0) (.neg (.cst (.int 1))))) (.cons (.asg (.nm 7) (.bi .tup .f (.cons (.lc .f
  [("here", 9), ("there", 10)] (.zip (.var 5) (.var 3)) (.tp (.cons (.nm 9) (.cons (.nm 10) .nil))) .non (.op .sub .f (.var 9) (.var 10))) .nil))) (.cons (.ite (.cmp .lt (.bi .min1 .f (.cons (.var 7) .nil)) (.cst (.int 0))) (.cons (.ret (.cst .non)) .nil) .nil) (.cons (.asg (.nm 8) (.tup (.cons (.var 7) (.cons (.call "over" (.cons (.var 6) (.cons (.var 4) .nil))) .nil)))) (.cons (.exp (.mt .append
  (.var 2) (.cons (.var 8) .nil))) (.cons (.asg (.nm 0) (.call "poly_less" (.cons (.var 0) (.cons (.call "poly_times" (.cons (.tup (.cons (.var 8) .nil)) (.cons (.var 1) .nil))) .nil)))) .nil))))))) (.cons (.ret (.call "poly" (.cons (.frz (.var 2)) .nil))) .nil))))⟩
def c_is_letter : Df := ⟨"is_letter", 1, 2, (.cons (.ite (.or (.not (.chn .le .le (.cst (.int 1)) (.bi .len .f (.cons (.var 0) .nil)) (.glb "MOST_SIGNS_reckonings" (.int 5)))) (.cons (.cmp .inn (.var 0) (.glb "KEPT" (.tup [(.str "letters"), (.str "part"), (.str "rounds"), (.str "end"), (.str "give")]))) .nil)) (.cons (.ret (.cst (.bl false))) .nil) .nil) (.cons (.ret (.bi .all .f (.cons (.lc .f
  [("sign", 1)] (.ex (.var 0)) (.nm 1) .non (.cmp .inn (.var 1) (.glb "SMALL_reckonings" (.str "abcdefghijklmnopqrstuvwxyz")))) .nil))) .nil))⟩
def c_is_number_below : Df := ⟨"is_number_below", 2, 2, (.cons (.ret (.and (.bi .isinst .f (.cons (.var 0) (.cons (.typ "int") .nil))) (.cons (.chn .le .lt (.cst (.int 0)) (.var 0) (.var 1)) .nil))) .nil)⟩
def c_is_fraction : Df := ⟨"is_fraction", 1, 1, (.cons (.ite (.or (.not (.call "is_row" (.cons (.var 0) (.cons (.cst (.int 2)) .nil)))) (.cons (.not (.call "is_whole" (.cons (.ix (.var 0) (.cst (.int 0))) .nil))) (.cons (.not (.call "is_whole" (.cons (.ix (.var 0) (.cst (.int 1))) .nil))) (.cons (.cmp .lt (.ix (.var 0) (.cst (.int 1))) (.cst (.int 1))) .nil)))) (.cons (.ret (.cst (.bl false)))
  .nil) .nil) (.cons (.ret (.cmp .eq (.call "fraction" (.cons (.ix (.var 0) (.cst (.int 0))) (.cons (.ix (.var 0) (.cst (.int 1))) .nil))) (.var 0))) .nil))⟩
def c_row_fits : Df := ⟨"row_fits", 3, 3, (.cons (.ite (.and (.cmp .eq (.bi .len .f (.cons (.var 1) .nil)) (.cst (.int 2))) (.cons (.cmp .eq (.ix (.var 1) (.cst (.int 0))) (.cst (.str "number"))) .nil)) (.cons (.ret (.call "is_fraction" (.cons (.ix (.var 1) (.cst (.int 1))) .nil))) .nil) .nil) (.cons (.ite (.and (.cmp .eq (.bi .len .f (.cons (.var 1) .nil)) (.cst (.int 2))) (.cons (.cmp .eq (.ix
  (.var 1) (.cst (.int 0))) (.cst (.str "letter"))) .nil)) (.cons (.ret (.call "is_number_below" (.cons (.ix (.var 1) (.cst (.int 1))) (.cons (.bi .len .f (.cons (.var 0) .nil)) .nil)))) .nil) .nil) (.cons (.ite (.or (.cmp .ne (.bi .len .f (.cons (.var 1) .nil)) (.cst (.int 3))) (.cons (.cmp .notin (.ix (.var 1) (.cst (.int 0))) (.glb "WORDS" (.tup [(.str "plus"), (.str "less"), (.str "times"),
  (.str "over")]))) .nil)) (.cons (.ret (.cst (.bl false))) .nil) .nil) (.cons (.ret (.and (.call "is_number_below" (.cons (.ix (.var 1) (.cst (.int 1))) (.cons (.var 2) .nil))) (.cons (.call "is_number_below" (.cons (.ix (.var 1) (.cst (.int 2))) (.cons (.var 2) .nil))) .nil))) .nil))))⟩
def c__law_names : Df := ⟨"_law_names", 2, 11, (.cons (.asg (.nm 2) (.cst (.str "abcdefghijklmnopqrstuvwxyz"))) (.cons (.asg (.nm 3) (.lc .f [("_law_k", 7)] (.rng (.cons (.op .add .f (.cst (.int 1)) (.call "_law_take" (.cons (.var 0) (.cons (.cst (.int 4)) .nil)))) .nil)) (.nm 7) .non (.ix (.var 2) (.call "_law_take" (.cons (.var 0) (.cons (.cst (.int 26)) .nil)))))) (.cons (.asg (.nm 4) (.call
  "_law_take" (.cons (.var 0) (.cons (.bi .len .f (.cons (.var 3) .nil)) .nil)))) (.cons (.asg (.nm 5) (.call "_law_take" (.cons (.var 0) (.cons (.cst (.int 26)) .nil)))) (.cons (.asg (.nm 6) (.lst .t .nil)) (.cons (.for (.nm 7) (.rng (.cons (.var 1) .nil)) (.cons (.asg (.nm 8) (.ix (.var 2) (.op .mod .f (.op .add .f (.var 5) (.op .mul .f (.cst (.int 7)) (.var 7))) (.cst (.int 26))))) (.cons (.asg
  (.nm 9) (.op .add .f (.op .add .f (.tm .join .f (.cst (.str "")) (.sl .f (.var 3) .non (.som (.var 4)))) (.var 8)) (.tm .join .f (.cst (.str "")) (.sl .f (.var 3) (.som (.op .add .f (.var 4) (.cst (.int 1)))) .non)))) (.cons (.asg (.nm 9) (.op .add .f (.var 9) (.op .mul .f (.cst (.str "q")) (.call "_law_take" (.cons (.var 0) (.cons (.cst (.int 2)) .nil)))))) (.cons (.ite (.or (.cmp .inn (.var 9)
  (.var 6)) (.cons (.cmp .inn (.var 9) (.tup (.cons (.cst (.str "part")) (.cons (.cst (.str "end")) (.cons (.cst (.str "give")) (.cons (.cst (.str "rounds")) (.cons (.cst (.str "letters")) .nil))))))) .nil)) (.cons (.asg (.nm 9) (.op .add .f (.cst (.str "zz")) (.ix (.var 2) (.var 7)))) .nil) .nil) (.cons (.exp (.mt .append (.var 6) (.cons (.var 9) .nil))) .nil)))))) (.cons (.ite (.cmp .eq (.call
  "_law_take" (.cons (.var 0) (.cons (.cst (.int 5)) .nil))) (.cst (.int 0))) (.cons (.asg (.nm 10) (.ix (.lst .f (.cons (.cst (.str "ends")) (.cons (.cst (.str "pa")) (.cons (.cst (.str "gives")) (.cons (.cst (.str "giv")) (.cons (.cst (.str "x")) (.cons (.cst (.str "y")) (.cons (.cst (.str "r")) (.cons (.cst (.str "rk")) .nil))))))))) (.call "_law_take" (.cons (.var 0) (.cons (.cst (.int 8))
  .nil))))) (.cons (.ite (.cmp .notin (.var 10) (.var 6)) (.cons (.sub (.var 6) (.call "_law_take" (.cons (.var 0) (.cons (.var 1) .nil))) (.var 10)) .nil) .nil) .nil)) .nil) (.cons (.ret (.bi .tup .f (.cons (.frz (.var 6)) .nil))) .nil))))))))⟩
def c__law_whole : Df := ⟨"_law_whole", 1, 1, (.cons (.ret (.and (.bi .isinst .f (.cons (.var 0) (.cons (.typ "int") .nil))) (.cons (.not (.bi .isinst .f (.cons (.var 0) (.cons (.typ "bool") .nil)))) .nil))) .nil)⟩
def c_parts_of : Df := ⟨"parts_of", 1, 1, (.cons (.ite (.cmp .inn (.ix (.var 0) (.cst (.int 0))) (.glb "WORDS" (.tup [(.str "plus"), (.str "less"), (.str "times"), (.str "over")]))) (.cons (.ret (.sl .f (.var 0) (.som (.cst (.int 1))) .non)) .nil) .nil) (.cons (.ret (.tup .nil)) .nil))⟩
def c_needed : Df := ⟨"needed", 1, 5, (.cons (.asg (.nm 1) (.lc .t [("row", 4)] (.ex (.var 0)) (.nm 4) .non (.cst (.bl false)))) (.cons (.sub (.var 1) (.neg (.cst (.int 1))) (.cst (.bl true))) (.cons (.for (.nm 2) (.rng (.cons (.op .sub .f (.bi .len .f (.cons (.var 0) .nil)) (.cst (.int 1))) (.cons (.neg (.cst (.int 1))) (.cons (.neg (.cst (.int 1))) .nil)))) (.cons (.for (.nm 3) (.ex (.call
  "parts_of" (.cons (.ix (.var 0) (.var 2)) .nil))) (.cons (.sub (.var 1) (.var 3) (.or (.ix (.var 1) (.var 3)) (.cons (.ix (.var 1) (.var 2)) .nil))) .nil)) .nil)) (.cons (.ret (.frz (.var 1))) .nil))))⟩
def c_pruned : Df := ⟨"pruned", 1, 8, (.cons (.asg (.tp (.cons (.nm 1) (.cons (.nm 2) .nil))) (.var 0)) (.cons (.asg (.nm 3) (.call "needed" (.cons (.var 2) .nil))) (.cons (.asg (.nm 4) (.dnew false)) (.cons (.asg (.nm 5) (.lst .t .nil)) (.cons (.for (.tp (.cons (.nm 6) (.cons (.nm 7) .nil))) (.enm (.var 2)) (.cons (.ite (.ix (.var 3) (.var 6)) (.cons (.sub (.var 4) (.var 6) (.bi .len .f (.cons
  (.var 5) .nil))) (.cons (.ite (.cmp .inn (.ix (.var 7) (.cst (.int 0))) (.glb "WORDS" (.tup [(.str "plus"), (.str "less"), (.str "times"), (.str "over")]))) (.cons (.asg (.nm 7) (.tup (.cons (.ix (.var 7) (.cst (.int 0))) (.cons (.ix (.var 4) (.ix (.var 7) (.cst (.int 1)))) (.cons (.ix (.var 4) (.ix (.var 7) (.cst (.int 2)))) .nil))))) .nil) .nil) (.cons (.exp (.mt .append (.var 5) (.cons (.var
  7) .nil))) .nil))) .nil) .nil)) (.cons (.ret (.tup (.cons (.var 1) (.cons (.bi .tup .f (.cons (.frz (.var 5)) .nil)) .nil)))) .nil))))))⟩
def c_products : Df := ⟨"products", 1, 2, (.cons (.ret (.bi .len .f (.cons (.lc .f [("row", 1)] (.ex (.ix (.var 0) (.cst (.int 1)))) (.nm 1) (.som (.cmp .eq (.ix (.var 1) (.cst (.int 0))) (.cst (.str "times")))) (.var 1)) .nil))) .nil)⟩
def c_is_whole : Df := ⟨"is_whole", 1, 1, (.cons (.ret (.and (.bi .isinst .f (.cons (.var 0) (.cons (.typ "int") .nil))) (.cons (.not (.bi .isinst .f (.cons (.var 0) (.cons (.typ "bool") .nil)))) .nil))) .nil)⟩
def c_weight_of : Df := ⟨"weight_of", 2, 6, (.cons (.ite (.cmp .notin (.ix (.var 0) (.cst (.int 0))) (.glb "WORDS" (.tup [(.str "plus"), (.str "less"), (.str "times"), (.str "over")]))) (.cons (.ret (.tup (.cons (.cst (.int 1)) (.cons (.cst (.int 0)) .nil)))) .nil) .nil) (.cons (.asg (.tp (.cons (.nm 2) (.cons (.nm 3) .nil))) (.ix (.var 1) (.ix (.var 0) (.cst (.int 1))))) (.cons (.asg (.tp (.cons
  (.nm 4) (.cons (.nm 5) .nil))) (.ix (.var 1) (.ix (.var 0) (.cst (.int 2))))) (.cons (.ite (.cmp .eq (.ix (.var 0) (.cst (.int 0))) (.cst (.str "times"))) (.cons (.ret (.tup (.cons (.op .add .f (.var 2) (.var 4)) (.cons (.op .add .f (.var 3) (.var 5)) .nil)))) .nil) .nil) (.cons (.ite (.cmp .eq (.ix (.var 0) (.cst (.int 0))) (.cst (.str "over"))) (.cons (.ret (.tup (.cons (.op .add .f (.var 2)
  (.var 5)) (.cons (.op .add .f (.var 3) (.var 4)) .nil)))) .nil) .nil) (.cons (.ret (.tup (.cons (.bi .max2 .f (.cons (.op .add .f (.var 2) (.var 5)) (.cons (.op .add .f (.var 4) (.var 3)) .nil))) (.cons (.op .add .f (.var 3) (.var 5)) .nil)))) .nil))))))⟩
def c_weights : Df := ⟨"weights", 1, 3, (.cons (.asg (.nm 1) (.lst .t .nil)) (.cons (.for (.nm 2) (.ex (.ix (.var 0) (.cst (.int 1)))) (.cons (.exp (.mt .append (.var 1) (.cons (.call "weight_of" (.cons (.var 2) (.cons (.var 1) .nil))) .nil))) .nil)) (.cons (.ret (.var 1)) .nil)))⟩
def c__law_weight : Df := ⟨"_law_weight", 2, 6, (.cons (.ite (.or (.cmp .eq (.ix (.var 0) (.cst (.int 0))) (.cst (.str "number"))) (.cons (.cmp .eq (.ix (.var 0) (.cst (.int 0))) (.cst (.str "letter"))) .nil)) (.cons (.ret (.tup (.cons (.cst (.int 1)) (.cons (.cst (.int 0)) .nil)))) .nil) .nil) (.cons (.asg (.tp (.cons (.nm 2) (.cons (.nm 3) .nil))) (.ix (.var 1) (.ix (.var 0) (.cst (.int 1)))))
  (.cons (.asg (.tp (.cons (.nm 4) (.cons (.nm 5) .nil))) (.ix (.var 1) (.ix (.var 0) (.cst (.int 2))))) (.cons (.ite (.cmp .eq (.ix (.var 0) (.cst (.int 0))) (.cst (.str "times"))) (.cons (.ret (.tup (.cons (.op .add .f (.var 2) (.var 4)) (.cons (.op .add .f (.var 3) (.var 5)) .nil)))) .nil) .nil) (.cons (.ite (.cmp .eq (.ix (.var 0) (.cst (.int 0))) (.cst (.str "over"))) (.cons (.ret (.tup (.cons
  (.op .add .f (.var 2) (.var 5)) (.cons (.op .add .f (.var 3) (.var 4)) .nil)))) .nil) .nil) (.cons (.ret (.tup (.cons (.bi .max2 .f (.cons (.op .add .f (.var 2) (.var 5)) (.cons (.op .add .f (.var 4) (.var 3)) .nil))) (.cons (.op .add .f (.var 3) (.var 5)) .nil)))) .nil))))))⟩
def c_run : Df := ⟨"run", 2, 5, (.cons (.asg (.nm 2) (.lst .t .nil)) (.cons (.for (.tp (.cons (.nm 3) (.cons (.nm 4) .nil))) (.enm (.ix (.var 0) (.cst (.int 1)))) (.cons (.exp (.mt .append (.var 2) (.cons (.call "row_value" (.cons (.var 4) (.cons (.var 1) (.cons (.var 2) (.cons (.var 3) .nil))))) .nil))) .nil)) (.cons (.ret (.var 2)) .nil)))⟩
def c__law_pair : Df := ⟨"_law_pair", 3, 10, (.cons (.asg (.nm 3) (.frz (.ddsp (.op .mul .f (.tup (.cons (.cst (.int 0)) .nil)) (.var 2)) (.tup (.cons (.cst (.int 1)) (.cons (.cst (.int 1)) .nil)))))) (.cons (.ite (.cmp .eq (.ix (.var 0) (.cst (.int 0))) (.cst (.str "number"))) (.cons (.ret (.tup (.cons (.call "_law_poly_number" (.cons (.var 2) (.cons (.ix (.var 0) (.cst (.int 1))) .nil))) (.cons
  (.var 3) .nil)))) .nil) .nil) (.cons (.ite (.cmp .eq (.ix (.var 0) (.cst (.int 0))) (.cst (.str "letter"))) (.cons (.ret (.tup (.cons (.call "_law_poly_letter" (.cons (.var 2) (.cons (.ix (.var 0) (.cst (.int 1))) .nil))) (.cons (.var 3) .nil)))) .nil) .nil) (.cons (.asg (.tp (.cons (.nm 4) (.cons (.nm 5) .nil))) (.ix (.var 1) (.ix (.var 0) (.cst (.int 1))))) (.cons (.asg (.tp (.cons (.nm 6)
  (.cons (.nm 7) .nil))) (.ix (.var 1) (.ix (.var 0) (.cst (.int 2))))) (.cons (.ite (.cmp .eq (.ix (.var 0) (.cst (.int 0))) (.cst (.str "times"))) (.cons (.ret (.tup (.cons (.call "_law_poly_mult" (.cons (.var 4) (.cons (.var 6) .nil))) (.cons (.call "_law_poly_mult" (.cons (.var 5) (.cons (.var 7) .nil))) .nil)))) .nil) .nil) (.cons (.ite (.cmp .eq (.ix (.var 0) (.cst (.int 0))) (.cst (.str
  "over"))) (.cons (.ret (.tup (.cons (.call "_law_poly_mult" (.cons (.var 4) (.cons (.var 7) .nil))) (.cons (.call "_law_poly_mult" (.cons (.var 5) (.cons (.var 6) .nil))) .nil)))) .nil) .nil) (.cons (.asg (.nm 8) (.ix (.lst .f (.cons (.cst (.int 1)) (.cons (.neg (.cst (.int 1))) .nil))) (.bi .int .f (.cons (.cmp .eq (.ix (.var 0) (.cst (.int 0))) (.cst (.str "less"))) .nil)))) (.cons (.asg (.nm
  9) (.call "_law_poly_add" (.cons (.call "_law_poly_mult" (.cons (.var 4) (.cons (.var 7) .nil))) (.cons (.call "_law_poly_mult" (.cons (.var 6) (.cons (.var 5) .nil))) (.cons (.var 8) .nil))))) (.cons (.ret (.tup (.cons (.var 9) (.cons (.call "_law_poly_mult" (.cons (.var 5) (.cons (.var 7) .nil))) .nil)))) .nil))))))))))⟩
def c__law_drawn_row : Df := ⟨"_law_drawn_row", 4, 10, (.cons (.asg (.nm 4) (.bi .len .f (.cons (.var 1) .nil))) (.cons (.asg (.nm 5) (.ix (.lst .f (.cons (.cst (.str "plus")) (.cons (.cst (.str "less")) (.cons (.cst (.str "times")) (.cons (.cst (.str "times")) (.cons (.cst (.str "over")) (.cons (.cst (.str "over")) .nil))))))) (.call "_law_take" (.cons (.var 0) (.cons (.cst (.int 6)) .nil)))))
  (.cons (.ite (.or (.cmp .eq (.var 4) (.cst (.int 0))) (.cons (.cmp .lt (.call "_law_take" (.cons (.var 0) (.cons (.cst (.int 9)) .nil))) (.cst (.int 3))) .nil)) (.cons (.ite (.cmp .eq (.call "_law_take" (.cons (.var 0) (.cons (.cst (.int 3)) .nil))) (.cst (.int 0))) (.cons (.ret (.tup (.cons (.cst (.str "number")) (.cons (.call "_law_number" (.cons (.var 0) .nil)) .nil)))) .nil) .nil) (.cons
  (.ret (.tup (.cons (.cst (.str "letter")) (.cons (.call "_law_take" (.cons (.var 0) (.cons (.var 2) .nil))) .nil)))) .nil)) .nil) (.cons (.asg (.nm 6) (.ix (.lst .f (.cons (.op .sub .f (.var 4) (.cst (.int 1))) (.cons (.call "_law_take" (.cons (.var 0) (.cons (.var 4) .nil))) .nil))) (.call "_law_take" (.cons (.var 0) (.cons (.cst (.int 2)) .nil))))) (.cons (.asg (.nm 7) (.call "_law_take" (.cons
  (.var 0) (.cons (.var 4) .nil)))) (.cons (.asg (.nm 8) (.lc .f [("_law_n", 9)] (.rng (.cons (.var 4) .nil)) (.nm 9) (.som (.cmp .eq (.ix (.ix (.var 1) (.var 9)) (.cst (.int 0))) (.cst (.str "times")))) (.var 9))) (.cons (.ite (.and (.cmp .eq (.var 5) (.cst (.str "over"))) (.cons (.cmp .eq (.var 3) (.cst (.int 1))) (.cons (.cmp .gt (.bi .len .f (.cons (.var 8) .nil)) (.cst (.int 0))) .nil)))
  (.cons (.asg (.nm 9) (.ix (.var 8) (.call "_law_take" (.cons (.var 0) (.cons (.bi .len .f (.cons (.var 8) .nil)) .nil))))) (.cons (.ret (.tup (.cons (.cst (.str "over")) (.cons (.var 9) (.cons (.ix (.ix (.var 1) (.var 9)) (.op .add .f (.cst (.int 1)) (.call "_law_take" (.cons (.var 0) (.cons (.cst (.int 2)) .nil))))) .nil))))) .nil)) .nil) (.cons (.ite (.and (.cmp .eq (.var 5) (.cst (.str
  "over"))) (.cons (.cmp .lt (.var 3) (.cst (.int 2))) .nil)) (.cons (.asg (.nm 5) (.cst (.str "times"))) .nil) .nil) (.cons (.ret (.tup (.cons (.var 5) (.cons (.var 6) (.cons (.var 7) .nil))))) .nil)))))))))⟩
def c__law_reckoning : Df := ⟨"_law_reckoning", 5, 10, (.cons (.asg (.nm 5) (.lst .t .nil)) (.cons (.asg (.nm 6) (.lst .t .nil)) (.cons (.asg (.nm 7) (.lst .t .nil)) (.cons (.for (.nm 8) (.rng (.cons (.op .add .f (.cst (.int 1)) (.call "_law_take" (.cons (.var 0) (.cons (.var 2) .nil)))) .nil)) (.cons (.asg (.nm 9) (.call "_law_drawn_row" (.cons (.var 0) (.cons (.var 5) (.cons (.bi .len .f (.cons
  (.var 1) .nil)) (.cons (.var 4) .nil)))))) (.cons (.ite (.cmp .gt (.bi .max1 .f (.cons (.call "_law_weight" (.cons (.var 9) (.cons (.var 7) .nil))) .nil)) (.var 3)) (.cons (.asg (.nm 9) (.tup (.cons (.ix (.lst .f (.cons (.cst (.str "plus")) (.cons (.cst (.str "less")) .nil))) (.call "_law_take" (.cons (.var 0) (.cons (.cst (.int 2)) .nil)))) (.cons (.ix (.var 9) (.cst (.int 1))) (.cons (.ix (.var
  9) (.cst (.int 1))) .nil))))) .nil) .nil) (.cons (.ite (.cmp .gt (.bi .max1 .f (.cons (.call "_law_weight" (.cons (.var 9) (.cons (.var 7) .nil))) .nil)) (.var 3)) (.cons (.asg (.nm 9) (.tup (.cons (.cst (.str "letter")) (.cons (.call "_law_take" (.cons (.var 0) (.cons (.bi .len .f (.cons (.var 1) .nil)) .nil))) .nil)))) .nil) .nil) (.cons (.ite (.and (.cmp .eq (.ix (.var 9) (.cst (.int 0)))
  (.cst (.str "over"))) (.cons (.cmp .eq (.ix (.ix (.var 6) (.ix (.var 9) (.cst (.int 2)))) (.cst (.int 0))) (.frz (.dnew true))) .nil)) (.cons (.asg (.nm 9) (.tup (.cons (.cst (.str "number")) (.cons (.call "_law_number" (.cons (.var 0) .nil)) .nil)))) .nil) .nil) (.cons (.exp (.mt .append (.var 5) (.cons (.var 9) .nil))) (.cons (.exp (.mt .append (.var 6) (.cons (.call "_law_pair" (.cons (.var 9)
  (.cons (.var 6) (.cons (.bi .len .f (.cons (.var 1) .nil)) .nil)))) .nil))) (.cons (.exp (.mt .append (.var 7) (.cons (.call "_law_weight" (.cons (.var 9) (.cons (.var 7) .nil))) .nil))) .nil)))))))) (.cons (.ret (.tup (.cons (.var 1) (.cons (.bi .tup .f (.cons (.frz (.var 5)) .nil)) .nil)))) .nil)))))⟩
def c_plain_poly : Df := ⟨"plain_poly", 2, 3, (.cons (.ite (.cmp .eq (.ix (.var 0) (.cst (.int 0))) (.cst (.str "number"))) (.cons (.ret (.call "poly" (.cons (.lst .f (.cons (.tup (.cons (.op .mul .f (.tup (.cons (.cst (.int 0)) .nil)) (.var 1)) (.cons (.ix (.var 0) (.cst (.int 1))) .nil))) .nil)) .nil))) .nil) .nil) (.cons (.ret (.call "poly" (.cons (.lst .f (.cons (.tup (.cons (.bi .tup .f (.cons
  (.lc .f [("k", 2)] (.rng (.cons (.var 1) .nil)) (.nm 2) .non (.bi .int .f (.cons (.cmp .eq (.var 2) (.ix (.var 0) (.cst (.int 1)))) .nil))) .nil)) (.cons (.glb "ONE_fractions" (.tup [(.int 1), (.int 1)])) .nil))) .nil)) .nil))) .nil))⟩
def c_quotients : Df := ⟨"quotients", 1, 7, (.cons (.asg (.tp (.cons (.nm 1) (.cons (.nm 2) .nil))) (.var 0)) (.cons (.asg (.nm 3) (.call "poly" (.cons (.lst .f (.cons (.tup (.cons (.op .mul .f (.tup (.cons (.cst (.int 0)) .nil)) (.bi .len .f (.cons (.var 1) .nil))) (.cons (.glb "ONE_fractions" (.tup [(.int 1), (.int 1)])) .nil))) .nil)) .nil))) (.cons (.asg (.nm 4) (.lst .t .nil)) (.cons (.for
  (.tp (.cons (.nm 5) (.cons (.nm 6) .nil))) (.enm (.var 2)) (.cons (.ite (.cmp .inn (.ix (.var 6) (.cst (.int 0))) (.tup (.cons (.cst (.str "number")) (.cons (.cst (.str "letter")) .nil)))) (.cons (.exp (.mt .append (.var 4) (.cons (.tup (.cons (.call "plain_poly" (.cons (.var 6) (.cons (.bi .len .f (.cons (.var 1) .nil)) .nil))) (.cons (.var 3) .nil))) .nil))) .nil) (.cons (.exp (.mt .append
  (.var 4) (.cons (.call "row_quotient" (.cons (.var 6) (.cons (.var 4) (.cons (.var 5) .nil)))) .nil))) .nil)) .nil)) (.cons (.ret (.var 4)) .nil)))))⟩
def c__law_value : Df := ⟨"_law_value", 2, 8, (.cons (.asg (.nm 2) (.tup (.cons (.cst (.int 0)) (.cons (.cst (.int 1)) .nil)))) (.cons (.for (.nm 3) (.ex (.var 0)) (.cons (.asg (.nm 4) (.ix (.var 0) (.var 3))) (.cons (.for (.tp (.cons (.nm 5) (.cons (.nm 6) .nil))) (.zip (.var 1) (.var 3)) (.cons (.for (.nm 7) (.rng (.cons (.var 6) .nil)) (.cons (.asg (.nm 4) (.call "_law_times" (.cons (.var 4)
  (.cons (.var 5) .nil)))) .nil)) .nil)) (.cons (.asg (.nm 2) (.call "_law_plus" (.cons (.var 2) (.cons (.var 4) .nil)))) .nil)))) (.cons (.ret (.var 2)) .nil)))⟩
def c_polynomial_of : Df := ⟨"polynomial_of", 1, 3, (.cons (.asg (.tp (.cons (.nm 1) (.cons (.nm 2) .nil))) (.ix (.call "quotients" (.cons (.var 0) .nil)) (.neg (.cst (.int 1))))) (.cons (.ret (.call "parted_by" (.cons (.var 1) (.cons (.var 2) .nil)))) .nil))⟩
def c__law_pairs : Df := ⟨"_law_pairs", 1, 3, (.cons (.asg (.nm 1) (.lst .t .nil)) (.cons (.for (.nm 2) (.ex (.ix (.var 0) (.cst (.int 1)))) (.cons (.exp (.mt .append (.var 1) (.cons (.call "_law_pair" (.cons (.var 2) (.cons (.var 1) (.cons (.bi .len .f (.cons (.ix (.var 0) (.cst (.int 0))) .nil)) .nil)))) .nil))) .nil)) (.cons (.ret (.frz (.var 1))) .nil)))⟩
def c_points_up_to : Df := ⟨"points_up_to", 2, 7, (.cons (.asg (.nm 2) (.lst .f (.cons (.tup .nil) .nil))) (.cons (.for (.nm 3) (.rng (.cons (.var 0) .nil)) (.cons (.asg (.nm 4) (.lst .t .nil)) (.cons (.for (.nm 5) (.ex (.var 2)) (.cons (.exp (.mt .extend (.var 4) (.cons (.lc .f [("n", 6)] (.rng (.cons (.op .add .f (.var 1) (.cst (.int 1))) .nil)) (.nm 6) .non (.op .add .f (.var 5) (.tup (.cons
  (.tup (.cons (.var 6) (.cons (.cst (.int 1)) .nil))) .nil)))) .nil))) .nil)) (.cons (.asg (.nm 2) (.frz (.var 4))) .nil)))) (.cons (.ret (.var 2)) .nil)))⟩
def c_good_point : Df := ⟨"good_point", 1, 5, (.cons (.exp (.call "quotients" (.cons (.var 0) .nil))) (.cons (.asg (.nm 1) (.bi .len .f (.cons (.ix (.var 0) (.cst (.int 0))) .nil))) (.cons (.asg (.nm 2) (.cst (.int 0))) (.cons (.whl (.cst (.bl true)) (.cons (.for (.nm 3) (.ex (.call "points_up_to" (.cons (.var 1) (.cons (.var 2) .nil)))) (.cons (.ite (.and (.cmp .eq (.bi .max1 .f (.cons (.lc .f
  [("f", 4)] (.ex (.var 3)) (.nm 4) .non (.ix (.var 4) (.cst (.int 0)))) .nil)) (.var 2)) (.cons (.call "runs_at" (.cons (.var 0) (.cons (.var 3) .nil))) .nil)) (.cons (.ret (.var 3)) .nil) .nil) .nil)) (.cons (.asg (.nm 2) (.op .add .f (.var 2) (.cst (.int 1)))) .nil))) .nil))))⟩
def c_is_name : Df := ⟨"is_name", 1, 2, (.cons (.ite (.or (.not (.chn .le .le (.cst (.int 1)) (.bi .len .f (.cons (.var 0) .nil)) (.glb "MOST_SIGNS_texts" (.int 6)))) (.cons (.cmp .inn (.var 0) (.glb "KEPT" (.tup [(.str "letters"), (.str "part"), (.str "rounds"), (.str "end"), (.str "give")]))) (.cons (.cmp .notin (.ix (.var 0) (.cst (.int 0))) (.glb "SMALL_texts" (.str
  "abcdefghijklmnopqrstuvwxyz"))) .nil))) (.cons (.ret (.cst (.bl false))) .nil) .nil) (.cons (.ret (.bi .all .f (.cons (.lc .f [("sign", 1)] (.ex (.var 0)) (.nm 1) .non (.or (.cmp .inn (.var 1) (.glb "SMALL_texts" (.str "abcdefghijklmnopqrstuvwxyz"))) (.cons (.cmp .inn (.var 1) (.glb "FIGURES_texts" (.str "0123456789"))) .nil))) .nil))) .nil))⟩
def c_is_value : Df := ⟨"is_value", 1, 1, (.cons (.ret (.or (.call "is_name" (.cons (.var 0) .nil)) (.cons (.call "is_number_word" (.cons (.var 0) .nil)) .nil))) .nil)⟩
def c__law_fraction_text : Df := ⟨"_law_fraction_text", 1, 1, (.cons (.ite (.cmp .eq (.ix (.var 0) (.cst (.int 1))) (.cst (.int 1))) (.cons (.ret (.bi .str .f (.cons (.ix (.var 0) (.cst (.int 0))) .nil))) .nil) .nil) (.cons (.ret (.op .add .f (.op .add .f (.bi .str .f (.cons (.ix (.var 0) (.cst (.int 0))) .nil)) (.cst (.str "/"))) (.bi .str .f (.cons (.ix (.var 0) (.cst (.int 1))) .nil)))) .nil))⟩
def c__law_text_names : Df := ⟨"_law_text_names", 3, 13, (.cons (.asg (.nm 3) (.cst (.str "abcdefghijklmnopqrstuvwxyz0123456789"))) (.cons (.asg (.nm 4) (.lc .f [("_law_k", 8)] (.rng (.cons (.call "_law_take" (.cons (.var 0) (.cons (.cst (.int 6)) .nil))) .nil)) (.nm 8) .non (.ix (.var 3) (.call "_law_take" (.cons (.var 0) (.cons (.cst (.int 36)) .nil)))))) (.cons (.asg (.nm 5) (.call "_law_take"
  (.cons (.var 0) (.cons (.op .add .f (.bi .len .f (.cons (.var 4) .nil)) (.cst (.int 1))) .nil)))) (.cons (.asg (.nm 6) (.call "_law_take" (.cons (.var 0) (.cons (.cst (.int 26)) .nil)))) (.cons (.asg (.nm 7) (.lst .t .nil)) (.cons (.for (.nm 8) (.rng (.cons (.var 1) .nil)) (.cons (.asg (.nm 9) (.ix (.var 3) (.op .mod .f (.op .add .f (.var 6) (.op .mul .f (.cst (.int 5)) (.var 8))) (.cst (.int
  26))))) (.cons (.asg (.nm 10) (.op .add .f (.op .add .f (.tm .join .f (.cst (.str "")) (.sl .f (.var 4) .non (.som (.var 5)))) (.var 9)) (.tm .join .f (.cst (.str "")) (.sl .f (.var 4) (.som (.var 5)) .non)))) (.cons (.ite (.cmp .inn (.ix (.var 10) (.cst (.int 0))) (.cst (.str "0123456789"))) (.cons (.asg (.nm 10) (.op .add .f (.op .add .f (.var 9) (.sl .f (.var 10) .non (.som (.var 5)))) (.sl .f
  (.var 10) (.som (.op .add .f (.var 5) (.cst (.int 1)))) .non))) .nil) .nil) (.cons (.asg (.nm 11) (.cst (.int 10))) (.cons (.whl (.or (.cmp .inn (.var 10) (.var 7)) (.cons (.cmp .inn (.var 10) (.var 2)) (.cons (.cmp .inn (.var 10) (.tup (.cons (.cst (.str "letters")) (.cons (.cst (.str "part")) (.cons (.cst (.str "rounds")) (.cons (.cst (.str "end")) (.cons (.cst (.str "give")) .nil)))))))
  .nil))) (.cons (.asg (.nm 10) (.op .add .f (.cst (.str "zz")) (.bi .str .f (.cons (.var 11) .nil)))) (.cons (.asg (.nm 11) (.op .add .f (.var 11) (.cst (.int 1)))) .nil))) (.cons (.exp (.mt .append (.var 7) (.cons (.var 10) .nil))) .nil))))))) (.cons (.ite (.cmp .eq (.call "_law_take" (.cons (.var 0) (.cons (.cst (.int 5)) .nil))) (.cst (.int 0))) (.cons (.asg (.nm 12) (.ix (.lst .f (.cons (.cst
  (.str "ends")) (.cons (.cst (.str "parts")) (.cons (.cst (.str "gives")) (.cons (.cst (.str "r0")) (.cons (.cst (.str "r12")) (.cons (.cst (.str "round")) (.cons (.cst (.str "letter")) (.cons (.cst (.str "en")) .nil))))))))) (.call "_law_take" (.cons (.var 0) (.cons (.cst (.int 8)) .nil))))) (.cons (.ite (.and (.cmp .notin (.var 12) (.var 7)) (.cons (.cmp .notin (.var 12) (.var 2)) .nil)) (.cons
  (.sub (.var 7) (.call "_law_take" (.cons (.var 0) (.cons (.var 1) .nil))) (.var 12)) .nil) .nil) .nil)) .nil) (.cons (.ret (.frz (.var 7))) .nil))))))))⟩
def c__law_known_word : Df := ⟨"_law_known_word", 2, 3, (.cons (.ite (.or (.cmp .eq (.bi .len .f (.cons (.var 1) .nil)) (.cst (.int 0))) (.cons (.cmp .eq (.call "_law_take" (.cons (.var 0) (.cons (.cst (.int 5)) .nil))) (.cst (.int 0))) .nil)) (.cons (.ite (.cmp .eq (.call "_law_take" (.cons (.var 0) (.cons (.cst (.int 6)) .nil))) (.cst (.int 0))) (.cons (.asg (.nm 2) (.op .sub .f (.call
  "_law_take" (.cons (.var 0) (.cons (.cst (.int 1999999)) .nil))) (.cst (.int 999999)))) (.cons (.ret (.call "_law_fraction_text" (.cons (.call "_law_fraction" (.cons (.var 2) (.cons (.op .add .f (.cst (.int 1)) (.call "_law_take" (.cons (.var 0) (.cons (.cst (.int 999999)) .nil)))) .nil))) .nil))) .nil)) .nil) (.cons (.ret (.call "_law_fraction_text" (.cons (.call "_law_number" (.cons (.var 0)
  .nil)) .nil))) .nil)) .nil) (.cons (.ret (.ix (.var 1) (.bi .max2 .f (.cons (.call "_law_take" (.cons (.var 0) (.cons (.bi .len .f (.cons (.var 1) .nil)) .nil))) (.cons (.call "_law_take" (.cons (.var 0) (.cons (.bi .len .f (.cons (.var 1) .nil)) .nil))) .nil))))) .nil))⟩
def c__law_line : Df := ⟨"_law_line", 4, 11, (.cons (.asg (.nm 4) (.call "_law_take" (.cons (.var 0) (.cons (.cst (.int 9)) .nil)))) (.cons (.asg (.nm 5) (.ix (.var 2) (.call "_law_take" (.cons (.var 0) (.cons (.bi .len .f (.cons (.var 2) .nil)) .nil))))) (.cons (.ite (.and (.cmp .lt (.var 4) (.cst (.int 3))) (.cons (.cmp .gt (.bi .len .f (.cons (.var 3) .nil)) (.cst (.int 0))) .nil)) (.cons (.asg
  (.tp (.cons (.nm 6) (.cons (.nm 7) .nil))) (.ix (.var 3) (.call "_law_take" (.cons (.var 0) (.cons (.bi .len .f (.cons (.var 3) .nil)) .nil))))) (.cons (.ret (.tup (.cons (.cst (.str "call")) (.cons (.var 5) (.cons (.op .add .f (.lst .f (.cons (.var 6) .nil)) (.lc .f [("_law_k", 10)] (.rng (.cons (.var 7) .nil)) (.nm 10) .non (.call "_law_known_word" (.cons (.var 0) (.cons (.var 1) .nil)))))
  .nil))))) .nil)) .nil) (.cons (.ite (.cmp .eq (.var 4) (.cst (.int 3))) (.cons (.ret (.tup (.cons (.cst (.str "=")) (.cons (.var 5) (.cons (.lst .f (.cons (.call "_law_known_word" (.cons (.var 0) (.cons (.var 1) .nil))) .nil)) .nil))))) .nil) .nil) (.cons (.asg (.nm 8) (.ix (.cst (.str "+-*/")) (.call "_law_take" (.cons (.var 0) (.cons (.cst (.int 4)) .nil))))) (.cons (.asg (.nm 9) (.call
  "_law_known_word" (.cons (.var 0) (.cons (.var 1) .nil)))) (.cons (.ret (.tup (.cons (.var 8) (.cons (.var 5) (.cons (.lst .f (.cons (.var 9) (.cons (.call "_law_known_word" (.cons (.var 0) (.cons (.var 1) .nil))) .nil))) .nil))))) .nil)))))))⟩
def c__law_steps : Df := ⟨"_law_steps", 6, 12, (.cons (.asg (.nm 6) (.lst .t .nil)) (.cons (.asg (.nm 1) (.bi .lis .t (.cons (.var 1) .nil))) (.cons (.for (.nm 7) (.rng (.cons (.op .add .f (.cst (.int 1)) (.call "_law_take" (.cons (.var 0) (.cons (.var 4) .nil)))) .nil)) (.cons (.ite (.and (.cmp .gt (.var 5) (.cst (.int 0))) (.cons (.cmp .eq (.call "_law_take" (.cons (.var 0) (.cons (.cst (.int 4))
  .nil))) (.cst (.int 0))) .nil)) (.cons (.asg (.tp (.cons (.nm 8) (.cons (.nm 9) .nil))) (.call "_law_steps" (.cons (.var 0) (.cons (.var 1) (.cons (.var 2) (.cons (.var 3) (.cons (.cst (.int 2)) (.cons (.op .sub .f (.var 5) (.cst (.int 1))) .nil)))))))) (.cons (.asg (.nm 10) (.ix (.lst .f (.cons (.cst (.int 0)) (.cons (.cst (.int 1)) (.cons (.cst (.int 2)) (.cons (.cst (.int 3)) (.cons (.cst
  (.int 2)) (.cons (.cst (.int 9)) (.cons (.call "_law_take" (.cons (.var 0) (.cons (.cst (.int 10)) .nil))) .nil)))))))) (.call "_law_take" (.cons (.var 0) (.cons (.cst (.int 7)) .nil))))) (.cons (.exp (.mt .append (.var 6) (.cons (.tup (.cons (.cst (.str "rounds")) (.cons (.var 10) (.cons (.var 8) .nil)))) .nil))) (.cons (.ite (.cmp .gt (.var 10) (.cst (.int 0))) (.cons (.asg (.nm 1) (.var 9))
  .nil) .nil) .nil)))) (.cons (.asg (.nm 11) (.call "_law_line" (.cons (.var 0) (.cons (.var 1) (.cons (.var 2) (.cons (.var 3) .nil)))))) (.cons (.exp (.mt .append (.var 6) (.cons (.var 11) .nil))) (.cons (.ite (.cmp .notin (.ix (.var 11) (.cst (.int 1))) (.var 1)) (.cons (.exp (.mt .append (.var 1) (.cons (.ix (.var 11) (.cst (.int 1))) .nil))) .nil) .nil) .nil)))) .nil)) (.cons (.ret (.tup
  (.cons (.frz (.var 6)) (.cons (.var 1) .nil)))) .nil))))⟩
def c__law_last : Df := ⟨"_law_last", 1, 1, (.cons (.whl (.cmp .eq (.ix (.ix (.var 0) (.neg (.cst (.int 1)))) (.cst (.int 0))) (.cst (.str "rounds"))) (.cons (.asg (.nm 0) (.ix (.ix (.var 0) (.neg (.cst (.int 1)))) (.cst (.int 2)))) .nil)) (.cons (.ret (.ix (.ix (.var 0) (.neg (.cst (.int 1)))) (.cst (.int 1)))) .nil))⟩
def c__law_line_text : Df := ⟨"_law_line_text", 1, 4, (.cons (.asg (.tp (.cons (.nm 1) (.cons (.nm 2) (.cons (.nm 3) .nil)))) (.var 0)) (.cons (.ite (.or (.cmp .eq (.var 1) (.cst (.str "="))) (.cons (.cmp .eq (.var 1) (.cst (.str "call"))) .nil)) (.cons (.ret (.op .add .f (.op .add .f (.var 2) (.cst (.str " = "))) (.tm .join .f (.cst (.str " ")) (.var 3)))) .nil) .nil) (.cons (.ret (.op .add .f
  (.op .add .f (.op .add .f (.op .add .f (.op .add .f (.op .add .f (.var 2) (.cst (.str " = "))) (.ix (.var 3) (.cst (.int 0)))) (.cst (.str " "))) (.var 1)) (.cst (.str " "))) (.ix (.var 3) (.cst (.int 1))))) .nil)))⟩
def c__law_steps_text : Df := ⟨"_law_steps_text", 1, 3, (.cons (.asg (.nm 1) (.lst .t .nil)) (.cons (.for (.nm 2) (.ex (.var 0)) (.cons (.ite (.cmp .eq (.ix (.var 2) (.cst (.int 0))) (.cst (.str "rounds"))) (.cons (.asg (.nm 1) (.op .add .t (.op .add .f (.op .add .f (.var 1) (.lst .f (.cons (.op .add .f (.cst (.str "rounds ")) (.bi .str .f (.cons (.ix (.var 2) (.cst (.int 1))) .nil))) .nil)))
  (.call "_law_steps_text" (.cons (.ix (.var 2) (.cst (.int 2))) .nil))) (.lst .f (.cons (.cst (.str "end")) .nil)))) .nil) (.cons (.exp (.mt .append (.var 1) (.cons (.call "_law_line_text" (.cons (.var 2) .nil)) .nil))) .nil)) .nil)) (.cons (.ret (.frz (.var 1))) .nil)))⟩
def c__law_text_rows : Df := ⟨"_law_text_rows", 4, 8, (.cons (.asg (.nm 4) (.lst .t (.cons (.op .add .f (.cst (.str "letters ")) (.tm .join .f (.cst (.str " ")) (.var 0))) .nil))) (.cons (.for (.tp (.cons (.nm 5) (.cons (.nm 6) (.cons (.nm 7) .nil)))) (.ex (.var 1)) (.cons (.exp (.mt .append (.var 4) (.cons (.op .add .f (.cst (.str "part ")) (.tm .join .f (.cst (.str " ")) (.op .add .f (.lst .f
  (.cons (.var 5) .nil)) (.var 6)))) .nil))) (.cons (.asg (.nm 4) (.op .add .t (.op .add .f (.var 4) (.call "_law_steps_text" (.cons (.var 7) .nil))) (.lst .f (.cons (.cst (.str "end")) .nil)))) .nil))) (.cons (.ret (.op .add .f (.op .add .f (.frz (.var 4)) (.call "_law_steps_text" (.cons (.var 2) .nil))) (.lst .f (.cons (.op .add .f (.cst (.str "give ")) (.var 3)) .nil)))) .nil)))⟩
def c__law_is_name_word : Df := ⟨"_law_is_name_word", 1, 1, (.cons (.ret (.cmp .inn (.ix (.var 0) (.cst (.int 0))) (.cst (.str "abcdefghijklmnopqrstuvwxyz")))) .nil)⟩
def c__law_number_of : Df := ⟨"_law_number_of", 1, 4, (.cons (.asg (.tp (.cons (.nm 1) (.cons (.nm 2) (.cons (.nm 3) .nil)))) (.tm .part .f (.var 0) (.cst (.str "/")))) (.cons (.ret (.tup (.cons (.bi .int .f (.cons (.var 1) .nil)) (.cons (.bi .int .f (.cons (.op .add .f (.var 3) (.op .mul .f (.cst (.str "1")) (.bi .int .f (.cons (.cmp .eq (.var 2) (.cst (.str ""))) .nil)))) .nil)) .nil)))) .nil))⟩
def c__law_lay : Df := ⟨"_law_lay", 2, 2, (.cons (.ite (.cmp .eq (.bi .len .f (.cons (.ix (.var 0) (.cst (.int 0))) .nil)) (.cst (.int 200))) (.cons (.sub (.var 0) (.cst (.int 1)) (.tup (.cons (.cst (.str "many")) (.cons (.cst (.int 200)) .nil)))) (.cons (.ret (.cst (.int 0))) .nil)) .nil) (.cons (.exp (.mt .append (.ix (.var 0) (.cst (.int 0))) (.cons (.var 1) .nil))) (.cons (.ret (.op .sub .f
  (.bi .len .f (.cons (.ix (.var 0) (.cst (.int 0))) .nil)) (.cst (.int 1)))) .nil)))⟩
def c__law_rows_of : Df := ⟨"_law_rows_of", 3, 5, (.cons (.for (.nm 3) (.ex (.var 1)) (.cons (.ite (.and (.cmp .isN (.ix (.var 0) (.cst (.int 1))) (.cst .non)) (.cons (.call "_law_is_name_word" (.cons (.var 3) .nil)) (.cons (.cmp .notin (.var 3) (.var 2)) .nil))) (.cons (.sub (.var 0) (.cst (.int 1)) (.tup (.cons (.cst (.str "name")) (.cons (.var 3) .nil)))) .nil) .nil) .nil)) (.cons (.asg (.nm 4)
  (.lst .t .nil)) (.cons (.for (.nm 3) (.ex (.var 1)) (.cons (.ite (.and (.cmp .isN (.ix (.var 0) (.cst (.int 1))) (.cst .non)) (.cons (.call "_law_is_name_word" (.cons (.var 3) .nil)) .nil)) (.cons (.exp (.mt .append (.var 4) (.cons (.ix (.var 2) (.var 3)) .nil))) .nil) (.cons (.ite (.cmp .isN (.ix (.var 0) (.cst (.int 1))) (.cst .non)) (.cons (.exp (.mt .append (.var 4) (.cons (.call "_law_lay"
  (.cons (.var 0) (.cons (.tup (.cons (.cst (.str "number")) (.cons (.call "_law_number_of" (.cons (.var 3) .nil)) .nil))) .nil))) .nil))) .nil) .nil) .nil)) .nil)) (.cons (.ret (.frz (.var 4))) .nil))))⟩
def c__law_go : Df := ⟨"_law_go", 4, 6, (.cons (.for (.nm 4) (.ex (.var 2)) (.cons (.ite (.cmp .notN (.ix (.var 0) (.cst (.int 1))) (.cst .non)) (.cons .retN .nil) .nil) (.cons (.ite (.cmp .eq (.ix (.var 4) (.cst (.int 0))) (.cst (.str "rounds"))) (.cons (.for (.nm 5) (.rng (.cons (.ix (.var 4) (.cst (.int 1))) .nil)) (.cons (.exp (.call "_law_go" (.cons (.var 0) (.cons (.var 1) (.cons (.ix (.var
  4) (.cst (.int 2))) (.cons (.var 3) .nil)))))) .nil)) .nil) (.cons (.exp (.call "_law_do" (.cons (.var 0) (.cons (.var 1) (.cons (.var 4) (.cons (.var 3) .nil)))))) .nil)) .nil))) .nil)⟩
def c__law_alike : Df := ⟨"_law_alike", 2, 4, (.cons (.ite (.bi .isinst .f (.cons (.var 1) (.cons (.typ "tuple") .nil))) (.cons (.ite (.or (.not (.bi .isinst .f (.cons (.var 0) (.cons (.typ "tuple") .nil)))) (.cons (.cmp .ne (.bi .len .f (.cons (.var 0) .nil)) (.bi .len .f (.cons (.var 1) .nil))) .nil)) (.cons (.ret (.cst (.bl false))) .nil) .nil) (.cons (.ret (.bi .all .f (.cons (.lc .f
  [("_law_one", 2), ("_law_other", 3)] (.zip (.var 0) (.var 1)) (.tp (.cons (.nm 2) (.cons (.nm 3) .nil))) .non (.call "_law_alike" (.cons (.var 2) (.cons (.var 3) .nil)))) .nil))) .nil)) .nil) (.cons (.ite (.bi .isinst .f (.cons (.var 1) (.cons (.typ "str") .nil))) (.cons (.ret (.and (.bi .isinst .f (.cons (.var 0) (.cons (.typ "str") .nil))) (.cons (.cmp .eq (.var 0) (.var 1)) .nil))) .nil) .nil)
  (.cons (.ret (.and (.bi .isinst .f (.cons (.var 0) (.cons (.typ "int") .nil))) (.cons (.not (.bi .isinst .f (.cons (.var 0) (.cons (.typ "bool") .nil)))) (.cons (.cmp .eq (.var 0) (.var 1)) .nil)))) .nil)))⟩
def c__law_draw_parts : Df := ⟨"_law_draw_parts", 5, 15, (.cons (.asg (.nm 5) (.call "_law_text_names" (.cons (.var 0) (.cons (.cst (.int 4)) (.cons (.op .add .f (.bi .lis .f (.cons (.var 1) .nil)) (.var 2)) .nil))))) (.cons (.ite (.cmp .eq (.call "_law_take" (.cons (.var 0) (.cons (.cst (.int 2)) .nil))) (.cst (.int 0))) (.cons (.exp (.mt .append (.var 2) (.cons (.ix (.var 5) (.call "_law_take"
  (.cons (.var 0) (.cons (.bi .max2 .f (.cons (.cst (.int 1)) (.cons (.var 3) .nil))) .nil)))) .nil))) .nil) .nil) (.cons (.asg (.nm 6) (.lst .t .nil)) (.cons (.for (.nm 7) (.rng (.cons (.var 3) .nil)) (.cons (.asg (.nm 8) (.bi .lis .t (.cons (.var 2) .nil))) (.cons (.asg (.nm 9) (.lst .t .nil)) (.cons (.for (.nm 10) (.rng (.cons (.op .add .f (.cst (.int 1)) (.call "_law_take" (.cons (.var 0)
  (.cons (.cst (.int 3)) .nil)))) .nil)) (.cons (.exp (.mt .append (.var 9) (.cons (.mt .pop1 (.var 8) (.cons (.call "_law_take" (.cons (.var 0) (.cons (.bi .len .f (.cons (.var 8) .nil)) .nil))) .nil)) .nil))) .nil)) (.cons (.asg (.nm 11) (.lc .f [("_law_part", 14)] (.ex (.var 6)) (.nm 14) .non (.tup (.cons (.ix (.var 14) (.cst (.int 0))) (.cons (.bi .len .f (.cons (.ix (.var 14) (.cst (.int 1)))
  .nil)) .nil))))) (.cons (.asg (.tp (.cons (.nm 12) (.cons (.nm 13) .nil))) (.call "_law_steps" (.cons (.var 0) (.cons (.var 9) (.cons (.var 2) (.cons (.var 11) (.cons (.cst (.int 3)) (.cons (.var 4) .nil)))))))) (.cons (.ite (.cmp .notin (.call "_law_last" (.cons (.var 12) .nil)) (.var 13)) (.cons (.exp (.mt .append (.var 12) (.cons (.tup (.cons (.cst (.str "*")) (.cons (.ix (.var 2) (.cst (.int
  0))) (.cons (.lst .f (.cons (.ix (.var 9) (.cst (.int 0))) (.cons (.ix (.var 9) (.neg (.cst (.int 1)))) .nil))) .nil)))) .nil))) .nil) .nil) (.cons (.exp (.mt .append (.var 6) (.cons (.tup (.cons (.ix (.var 5) (.var 7)) (.cons (.var 9) (.cons (.var 12) .nil)))) .nil))) .nil)))))))) (.cons (.ret (.frz (.var 6))) .nil)))))⟩
def c__law_is_fraction : Df := ⟨"_law_is_fraction", 1, 2, (.cons (.ite (.or (.not (.bi .isinst .f (.cons (.var 0) (.cons (.typ "tuple") .nil)))) (.cons (.cmp .ne (.bi .len .f (.cons (.var 0) .nil)) (.cst (.int 2))) .nil)) (.cons (.ret (.cst (.bl false))) .nil) .nil) (.cons (.for (.nm 1) (.ex (.var 0)) (.cons (.ite (.or (.not (.bi .isinst .f (.cons (.var 1) (.cons (.typ "int") .nil)))) (.cons (.bi
  .isinst .f (.cons (.var 1) (.cons (.typ "bool") .nil))) .nil)) (.cons (.ret (.cst (.bl false))) .nil) .nil) .nil)) (.cons (.ret (.and (.cmp .gt (.ix (.var 0) (.cst (.int 1))) (.cst (.int 0))) (.cons (.cmp .eq (.call "_law_fraction" (.cons (.ix (.var 0) (.cst (.int 0))) (.cons (.ix (.var 0) (.cst (.int 1))) .nil))) (.var 0)) .nil))) .nil)))⟩
def c_written_row : Df := ⟨"written_row", 3, 3, (.cons (.ite (.cmp .eq (.ix (.var 2) (.cst (.int 0))) (.cst (.str "letter"))) (.cons (.ret (.ix (.var 0) (.ix (.var 2) (.cst (.int 1))))) .nil) .nil) (.cons (.ite (.cmp .eq (.ix (.var 2) (.cst (.int 0))) (.cst (.str "number"))) (.cons (.ret (.call "fraction_text" (.cons (.ix (.var 2) (.cst (.int 1))) .nil))) .nil) .nil) (.cons (.ret (.op .add .f (.cst
  (.str "r")) (.bi .str .f (.cons (.var 1) .nil)))) .nil)))⟩
def c__law_written : Df := ⟨"_law_written", 3, 3, (.cons (.ite (.cmp .eq (.ix (.var 2) (.cst (.int 0))) (.cst (.str "letter"))) (.cons (.ret (.ix (.var 0) (.ix (.var 2) (.cst (.int 1))))) .nil) .nil) (.cons (.ite (.cmp .eq (.ix (.var 2) (.cst (.int 0))) (.cst (.str "number"))) (.cons (.ret (.call "_law_fraction_text" (.cons (.ix (.var 2) (.cst (.int 1))) .nil))) .nil) .nil) (.cons (.ret (.op .add
  .f (.cst (.str "r")) (.bi .str .f (.cons (.var 1) .nil)))) .nil)))⟩
def c_number_poly : Df := ⟨"number_poly", 2, 2, (.cons (.ret (.call "poly" (.cons (.lst .f (.cons (.tup (.cons (.op .mul .f (.tup (.cons (.cst (.int 0)) .nil)) (.var 0)) (.cons (.var 1) .nil))) .nil)) .nil))) .nil)⟩
def c_letter_poly : Df := ⟨"letter_poly", 2, 3, (.cons (.ret (.call "poly" (.cons (.lst .f (.cons (.tup (.cons (.bi .tup .f (.cons (.lc .f [("at", 2)] (.rng (.cons (.var 0) .nil)) (.nm 2) .non (.bi .int .f (.cons (.cmp .eq (.var 2) (.var 1)) .nil))) .nil)) (.cons (.tup (.cons (.cst (.int 1)) (.cons (.cst (.int 1)) .nil))) .nil))) .nil)) .nil))) .nil)⟩
def c_products_to : Df := ⟨"products_to", 4, 6, (.cons (.asg (.nm 4) (.tup .nil)) (.cons (.for (.nm 5) (.rng (.cons (.var 3) (.cons (.op .add .f (.var 2) (.cst (.int 1))) .nil))) (.cons (.asg (.nm 4) (.call "poly_plus" (.cons (.var 4) (.cons (.call "poly_times" (.cons (.ix (.var 0) (.var 5)) (.cons (.ix (.var 1) (.op .sub .f (.var 2) (.var 5))) .nil))) .nil)))) .nil)) (.cons (.ret (.var 4))
  .nil)))⟩
def c_parted_row : Df := ⟨"parted_row", 4, 8, (.cons (.asg (.nm 4) (.lst .t .nil)) (.cons (.for (.nm 5) (.rng (.cons (.op .add .f (.var 3) (.cst (.int 1))) .nil)) (.cons (.asg (.nm 6) (.op .add .f (.var 4) (.lst .f (.cons (.tup .nil) .nil)))) (.cons (.asg (.nm 7) (.call "poly_less" (.cons (.ix (.var 0) (.var 5)) (.cons (.call "products_to" (.cons (.var 1) (.cons (.var 6) (.cons (.var 5) (.cons
  (.cst (.int 1)) .nil))))) .nil)))) (.cons (.exp (.mt .append (.var 4) (.cons (.call "poly_times" (.cons (.var 2) (.cons (.var 7) .nil))) .nil))) .nil)))) (.cons (.ret (.frz (.var 4))) .nil)))⟩
def c_power_row : Df := ⟨"power_row", 6, 11, (.cons (.asg (.nm 6) (.bi .len .f (.cons (.ix (.var 0) (.cst (.int 0))) .nil))) (.cons (.asg (.nm 7) (.ix (.var 1) (.cst (.int 0)))) (.cons (.ite (.cmp .eq (.var 7) (.cst (.str "number"))) (.cons (.ret (.op .add .f (.lst .f (.cons (.call "number_poly" (.cons (.var 6) (.cons (.ix (.var 1) (.cst (.int 1))) .nil))) .nil)) (.op .mul .f (.lst .f (.cons (.tup
  .nil) .nil)) (.var 5)))) .nil) .nil) (.cons (.ite (.cmp .eq (.var 7) (.cst (.str "letter"))) (.cons (.ret (.sl .f (.op .add .f (.lst .f (.cons (.call "number_poly" (.cons (.var 6) (.cons (.ix (.var 4) (.ix (.var 1) (.cst (.int 1)))) .nil))) (.cons (.call "letter_poly" (.cons (.var 6) (.cons (.ix (.var 1) (.cst (.int 1))) .nil))) .nil))) (.op .mul .f (.lst .f (.cons (.tup .nil) .nil)) (.var 5)))
  .non (.som (.op .add .f (.var 5) (.cst (.int 1)))))) .nil) .nil) (.cons (.asg (.tp (.cons (.nm 8) (.cons (.nm 9) .nil))) (.tup (.cons (.ix (.var 2) (.ix (.var 1) (.cst (.int 1)))) (.cons (.ix (.var 2) (.ix (.var 1) (.cst (.int 2)))) .nil)))) (.cons (.ite (.cmp .eq (.var 7) (.cst (.str "plus"))) (.cons (.ret (.lc .f [("k", 10)] (.rng (.cons (.op .add .f (.var 5) (.cst (.int 1))) .nil)) (.nm 10)
  .non (.call "poly_plus" (.cons (.ix (.var 8) (.var 10)) (.cons (.ix (.var 9) (.var 10)) .nil))))) .nil) .nil) (.cons (.ite (.cmp .eq (.var 7) (.cst (.str "less"))) (.cons (.ret (.lc .f [("k", 10)] (.rng (.cons (.op .add .f (.var 5) (.cst (.int 1))) .nil)) (.nm 10) .non (.call "poly_less" (.cons (.ix (.var 8) (.var 10)) (.cons (.ix (.var 9) (.var 10)) .nil))))) .nil) .nil) (.cons (.ite (.cmp .eq
  (.var 7) (.cst (.str "times"))) (.cons (.ret (.lc .f [("k", 10)] (.rng (.cons (.op .add .f (.var 5) (.cst (.int 1))) .nil)) (.nm 10) .non (.call "products_to" (.cons (.var 8) (.cons (.var 9) (.cons (.var 10) (.cons (.cst (.int 0)) .nil))))))) .nil) .nil) (.cons (.ret (.call "parted_row" (.cons (.var 8) (.cons (.var 9) (.cons (.call "number_poly" (.cons (.var 6) (.cons (.call "over" (.cons (.tup
  (.cons (.cst (.int 1)) (.cons (.cst (.int 1)) .nil))) (.cons (.ix (.var 3) (.ix (.var 1) (.cst (.int 2)))) .nil))) .nil))) (.cons (.var 5) .nil)))))) .nil)))))))))⟩
def c_power_rows : Df := ⟨"power_rows", 3, 6, (.cons (.asg (.nm 3) (.call "run" (.cons (.var 0) (.cons (.var 1) .nil)))) (.cons (.asg (.nm 4) (.lst .t .nil)) (.cons (.for (.nm 5) (.ex (.ix (.var 0) (.cst (.int 1)))) (.cons (.exp (.mt .append (.var 4) (.cons (.call "power_row" (.cons (.var 0) (.cons (.var 5) (.cons (.var 4) (.cons (.var 3) (.cons (.var 1) (.cons (.var 2) .nil))))))) .nil))) .nil))
  (.cons (.ret (.frz (.var 4))) .nil))))⟩
def c__law_number_is : Df := ⟨"_law_number_is", 1, 1, (.cons (.ret (.and (.bi .isinst .f (.cons (.var 0) (.cons (.typ "int") .nil))) (.cons (.not (.bi .isinst .f (.cons (.var 0) (.cons (.typ "bool") .nil)))) .nil))) .nil)⟩
def c__law_fraction_is : Df := ⟨"_law_fraction_is", 1, 1, (.cons (.ite (.or (.not (.bi .isinst .f (.cons (.var 0) (.cons (.typ "tuple") .nil)))) (.cons (.cmp .ne (.bi .len .f (.cons (.var 0) .nil)) (.cst (.int 2))) (.cons (.not (.call "_law_number_is" (.cons (.ix (.var 0) (.cst (.int 0))) .nil))) .nil))) (.cons (.ret (.cst (.bl false))) .nil) .nil) (.cons (.ret (.and (.call "_law_number_is" (.cons
  (.ix (.var 0) (.cst (.int 1))) .nil)) (.cons (.cmp .gt (.ix (.var 0) (.cst (.int 1))) (.cst (.int 0))) (.cons (.cmp .eq (.call "_law_fraction" (.cons (.ix (.var 0) (.cst (.int 0))) (.cons (.ix (.var 0) (.cst (.int 1))) .nil))) (.var 0)) .nil)))) .nil))⟩
def c__law_deed : Df := ⟨"_law_deed", 3, 3, (.cons (.ite (.cmp .eq (.var 0) (.cst (.str "plus"))) (.cons (.ret (.call "_law_plus" (.cons (.var 1) (.cons (.var 2) .nil)))) .nil) .nil) (.cons (.ite (.cmp .eq (.var 0) (.cst (.str "less"))) (.cons (.ret (.call "_law_plus" (.cons (.var 1) (.cons (.tup (.cons (.op .sub .f (.cst (.int 0)) (.ix (.var 2) (.cst (.int 0)))) (.cons (.ix (.var 2) (.cst (.int
  1))) .nil))) .nil)))) .nil) .nil) (.cons (.ite (.cmp .eq (.var 0) (.cst (.str "times"))) (.cons (.ret (.call "_law_times" (.cons (.var 1) (.cons (.var 2) .nil)))) .nil) .nil) (.cons (.ret (.call "_law_fraction" (.cons (.op .mul .f (.ix (.var 1) (.cst (.int 0))) (.ix (.var 2) (.cst (.int 1)))) (.cons (.op .mul .f (.ix (.var 1) (.cst (.int 1))) (.ix (.var 2) (.cst (.int 0)))) .nil)))) .nil))))⟩
def c__law_run : Df := ⟨"_law_run", 2, 5, (.cons (.asg (.nm 2) (.lst .t .nil)) (.cons (.for (.tp (.cons (.nm 3) (.cons (.nm 4) .nil))) (.enm (.ix (.var 0) (.cst (.int 1)))) (.cons (.ite (.cmp .eq (.ix (.var 4) (.cst (.int 0))) (.cst (.str "number"))) (.cons (.exp (.mt .append (.var 2) (.cons (.ix (.var 4) (.cst (.int 1))) .nil))) .nil) (.cons (.ite (.cmp .eq (.ix (.var 4) (.cst (.int 0))) (.cst
  (.str "letter"))) (.cons (.exp (.mt .append (.var 2) (.cons (.ix (.var 1) (.ix (.var 4) (.cst (.int 1)))) .nil))) .nil) (.cons (.ite (.and (.cmp .eq (.ix (.var 4) (.cst (.int 0))) (.cst (.str "over"))) (.cons (.cmp .eq (.ix (.ix (.var 2) (.ix (.var 4) (.cst (.int 2)))) (.cst (.int 0))) (.cst (.int 0))) .nil)) (.cons (.ret (.tup (.cons (.frz (.var 2)) (.cons (.var 3) .nil)))) .nil) (.cons (.exp
  (.mt .append (.var 2) (.cons (.call "_law_deed" (.cons (.ix (.var 4) (.cst (.int 0))) (.cons (.ix (.var 2) (.ix (.var 4) (.cst (.int 1)))) (.cons (.ix (.var 2) (.ix (.var 4) (.cst (.int 2)))) .nil)))) .nil))) .nil)) .nil)) .nil)) .nil)) (.cons (.ret (.tup (.cons (.frz (.var 2)) (.cons (.cst .non) .nil)))) .nil)))⟩
def c__law_pointed : Df := ⟨"_law_pointed", 6, 11, (.cons (.asg (.nm 6) (.lst .t .nil)) (.cons (.asg (.nm 7) (.lst .f .nil)) (.cons (.asg (.nm 8) (.lst .t .nil)) (.cons (.for (.nm 9) (.rng (.cons (.op .add .f (.cst (.int 1)) (.call "_law_take" (.cons (.var 0) (.cons (.var 3) .nil)))) .nil)) (.cons (.asg (.nm 10) (.call "_law_drawn_row" (.cons (.var 0) (.cons (.var 6) (.cons (.bi .len .f (.cons
  (.var 1) .nil)) (.cons (.var 5) .nil)))))) (.cons (.ite (.or (.cmp .gt (.bi .max1 .f (.cons (.call "_law_weight" (.cons (.var 10) (.cons (.var 8) .nil))) .nil)) (.var 4)) (.cons (.and (.cmp .eq (.ix (.var 10) (.cst (.int 0))) (.cst (.str "over"))) (.cons (.cmp .eq (.ix (.ix (.var 7) (.ix (.var 10) (.cst (.int 2)))) (.cst (.int 0))) (.cst (.int 0))) .nil)) .nil)) (.cons (.asg (.nm 10) (.tup (.cons
  (.cst (.str "letter")) (.cons (.call "_law_take" (.cons (.var 0) (.cons (.bi .len .f (.cons (.var 1) .nil)) .nil))) .nil)))) .nil) .nil) (.cons (.exp (.mt .append (.var 6) (.cons (.var 10) .nil))) (.cons (.asg (.nm 7) (.ix (.call "_law_run" (.cons (.tup (.cons (.var 1) (.cons (.var 6) .nil))) (.cons (.var 2) .nil))) (.cst (.int 0)))) (.cons (.exp (.mt .append (.var 8) (.cons (.call "_law_weight"
  (.cons (.var 10) (.cons (.var 8) .nil))) .nil))) .nil)))))) (.cons (.ret (.tup (.cons (.var 1) (.cons (.bi .tup .f (.cons (.frz (.var 6)) .nil)) .nil)))) .nil)))))⟩
def c__law_old : Df := ⟨"_law_old", 1, 7, (.cons (.asg (.nm 1) (.call "_law_box" (.cons (.var 0) (.cons (.cst (.int 0)) .nil)))) (.cons (.asg (.nm 2) (.call "_law_names" (.cons (.var 1) (.cons (.op .add .f (.cst (.int 1)) (.call "_law_take" (.cons (.var 1) (.cons (.cst (.int 3)) .nil)))) .nil)))) (.cons (.asg (.nm 3) (.call "_law_point" (.cons (.var 1) (.cons (.bi .len .f (.cons (.var 2) .nil))
  .nil)))) (.cons (.asg (.nm 4) (.bi .lis .t (.cons (.ix (.call "_law_pointed" (.cons (.call "_law_box" (.cons (.var 0) (.cons (.cst (.int 1)) .nil))) (.cons (.var 2) (.cons (.var 3) (.cons (.cst (.int 7)) (.cons (.cst (.int 4)) (.cons (.cst (.int 1)) .nil))))))) (.cst (.int 1))) .nil))) (.cons (.asg (.nm 1) (.call "_law_box" (.cons (.var 0) (.cons (.cst (.int 2)) .nil)))) (.cons (.asg (.nm 5)
  (.call "_law_take" (.cons (.var 1) (.cons (.bi .len .f (.cons (.var 2) .nil)) .nil)))) (.cons (.ite (.and (.cmp .eq (.call "_law_take" (.cons (.var 1) (.cons (.cst (.int 2)) .nil))) (.cst (.int 0))) (.cons (.cmp .ne (.ix (.ix (.var 3) (.var 5)) (.cst (.int 0))) (.cst (.int 0))) .nil)) (.cons (.asg (.nm 6) (.op .sub .f (.bi .len .f (.cons (.var 4) .nil)) (.cst (.int 1)))) (.cons (.exp (.mt .append
  (.var 4) (.cons (.tup (.cons (.cst (.str "letter")) (.cons (.var 5) .nil))) .nil))) (.cons (.asg (.nm 4) (.op .add .t (.var 4) (.lst .f (.cons (.tup (.cons (.cst (.str "times")) (.cons (.var 6) (.cons (.op .add .f (.var 6) (.cst (.int 1))) .nil)))) (.cons (.tup (.cons (.cst (.str "over")) (.cons (.op .add .f (.var 6) (.cst (.int 2))) (.cons (.op .add .f (.var 6) (.cst (.int 1))) .nil))))
  .nil))))) .nil))) .nil) (.cons (.ret (.tup (.cons (.tup (.cons (.var 2) (.cons (.bi .tup .f (.cons (.frz (.var 4)) .nil)) .nil))) (.cons (.var 3) (.cons (.var 1) .nil))))) .nil))))))))⟩
def c_letter_mark : Df := ⟨"letter_mark", 1, 1, (.cons (.ret (.tup (.cons (.neg (.cst (.int 1))) (.cons (.var 0) .nil)))) .nil)⟩
def c_number_form : Df := ⟨"number_form", 1, 1, (.cons (.ite (.cmp .eq (.ix (.var 0) (.cst (.int 0))) (.cst (.int 0))) (.cons (.ret (.frz (.dnew true))) .nil) .nil) (.cons (.ret (.frz (.ddsp (.tup .nil) (.var 0)))) .nil))⟩
def c_mark_form : Df := ⟨"mark_form", 1, 1, (.cons (.ret (.frz (.ddsp (.tup (.cons (.var 0) .nil)) (.glb "ONE_forms" (.tup [(.int 1), (.int 1)]))))) .nil)⟩
def c_added : Df := ⟨"added", 2, 5, (.cons (.asg (.nm 2) (.bi .dic .t (.cons (.var 0) .nil))) (.cons (.for (.nm 3) (.ex (.var 1)) (.cons (.asg (.nm 4) (.call "plus" (.cons (.dget (.var 2) (.var 3) (.tup (.cons (.cst (.int 0)) (.cons (.cst (.int 1)) .nil)))) (.cons (.ix (.var 1) (.var 3)) .nil)))) (.cons (.sub (.var 2) (.var 3) (.var 4)) (.cons (.ite (.cmp .eq (.ix (.var 4) (.cst (.int 0))) (.cst
  (.int 0))) (.cons (.exp (.mt .pop1 (.var 2) (.cons (.var 3) .nil))) .nil) .nil) .nil)))) (.cons (.ret (.frz (.var 2))) .nil)))⟩
def c_scaled : Df := ⟨"scaled", 2, 3, (.cons (.ite (.cmp .eq (.ix (.var 1) (.cst (.int 0))) (.cst (.int 0))) (.cons (.ret (.frz (.dnew true))) .nil) .nil) (.cons (.ret (.bi .dic .f (.cons (.lc .f [("product", 2)] (.ex (.var 0)) (.nm 2) .non (.tup (.cons (.var 2) (.cons (.call "times" (.cons (.ix (.var 0) (.var 2)) (.cons (.var 1) .nil))) .nil)))) .nil))) .nil))⟩
def c_taken_off : Df := ⟨"taken_off", 2, 2, (.cons (.ret (.call "added" (.cons (.var 0) (.cons (.call "scaled" (.cons (.var 1) (.cons (.tup (.cons (.neg (.cst (.int 1))) (.cons (.cst (.int 1)) .nil))) .nil))) .nil)))) .nil)⟩
def c_multiplied : Df := ⟨"multiplied", 2, 6, (.cons (.asg (.nm 2) (.frz (.dnew true))) (.cons (.for (.nm 3) (.ex (.var 0)) (.cons (.asg (.nm 4) (.dnew true)) (.cons (.for (.nm 5) (.ex (.var 1)) (.cons (.sub (.var 4) (.bi .tup .f (.cons (.bi .sorted .f (.cons (.op .add .f (.var 3) (.var 5)) .nil)) .nil)) (.call "times" (.cons (.ix (.var 0) (.var 3)) (.cons (.ix (.var 1) (.var 5)) .nil)))) .nil))
  (.cons (.asg (.nm 2) (.call "added" (.cons (.var 2) (.cons (.var 4) .nil)))) .nil)))) (.cons (.ret (.var 2)) .nil)))⟩
def c_needed_rows : Df := ⟨"needed_rows", 1, 3, (.cons (.asg (.nm 1) (.ddsp (.op .sub .f (.bi .len .f (.cons (.var 0) .nil)) (.cst (.int 1))) (.cst (.bl true)))) (.cons (.for (.nm 2) (.rng (.cons (.op .sub .f (.bi .len .f (.cons (.var 0) .nil)) (.cst (.int 1))) (.cons (.neg (.cst (.int 1))) (.cons (.neg (.cst (.int 1))) .nil)))) (.cons (.ite (.and (.cmp .inn (.var 2) (.var 1)) (.cons (.cmp .notin
  (.ix (.ix (.var 0) (.var 2)) (.cst (.int 0))) (.tup (.cons (.cst (.str "number")) (.cons (.cst (.str "letter")) .nil)))) .nil)) (.cons (.sub (.var 1) (.ix (.ix (.var 0) (.var 2)) (.cst (.int 1))) (.cst (.bl true))) (.cons (.sub (.var 1) (.ix (.ix (.var 0) (.var 2)) (.cst (.int 2))) (.cst (.bl true))) .nil)) .nil) .nil)) (.frz 1 (.cons (.ret (.bi .sorted .f (.cons (.frz (.var 1)) .nil))) .nil))))⟩
def c__law_whole_row_is : Df := ⟨"_law_whole_row_is", 3, 4, (.cons (.ite (.or (.not (.bi .isinst .f (.cons (.var 0) (.cons (.typ "tuple") .nil)))) (.cons (.cmp .lt (.bi .len .f (.cons (.var 0) .nil)) (.cst (.int 2))) (.cons (.not (.bi .isinst .f (.cons (.ix (.var 0) (.cst (.int 0))) (.cons (.typ "str") .nil)))) .nil))) (.cons (.ret (.cst (.bl false))) .nil) .nil) (.cons (.ite (.cmp .eq (.ix (.var
  0) (.cst (.int 0))) (.cst (.str "number"))) (.cons (.ret (.and (.cmp .eq (.bi .len .f (.cons (.var 0) .nil)) (.cst (.int 2))) (.cons (.call "_law_fraction_is" (.cons (.ix (.var 0) (.cst (.int 1))) .nil)) .nil))) .nil) .nil) (.cons (.ite (.not (.bi .all .f (.cons (.lc .f [("_law_part", 3)] (.ex (.sl .f (.var 0) (.som (.cst (.int 1))) .non)) (.nm 3) .non (.and (.call "_law_number_is" (.cons (.var
  3) .nil)) (.cons (.cmp .ge (.var 3) (.cst (.int 0))) .nil))) .nil))) (.cons (.ret (.cst (.bl false))) .nil) .nil) (.cons (.ite (.cmp .eq (.ix (.var 0) (.cst (.int 0))) (.cst (.str "letter"))) (.cons (.ret (.and (.cmp .eq (.bi .len .f (.cons (.var 0) .nil)) (.cst (.int 2))) (.cons (.cmp .lt (.ix (.var 0) (.cst (.int 1))) (.var 2)) .nil))) .nil) .nil) (.cons (.ret (.and (.cmp .inn (.ix (.var 0)
  (.cst (.int 0))) (.tup (.cons (.cst (.str "plus")) (.cons (.cst (.str "less")) (.cons (.cst (.str "times")) .nil))))) (.cons (.cmp .eq (.bi .len .f (.cons (.var 0) .nil)) (.cst (.int 3))) (.cons (.cmp .lt (.bi .max1 .f (.cons (.sl .f (.var 0) (.som (.cst (.int 1))) .non) .nil)) (.var 1)) .nil)))) .nil)))))⟩
def c__law_whole_is : Df := ⟨"_law_whole_is", 2, 4, (.cons (.ite (.or (.not (.bi .isinst .f (.cons (.var 0) (.cons (.typ "tuple") .nil)))) (.cons (.cmp .ne (.bi .len .f (.cons (.var 0) .nil)) (.cst (.int 2))) (.cons (.cmp .ne (.ix (.var 0) (.cst (.int 0))) (.var 1)) (.cons (.not (.bi .isinst .f (.cons (.ix (.var 0) (.cst (.int 1))) (.cons (.typ "tuple") .nil)))) .nil)))) (.cons (.ret (.cst (.bl
  false))) .nil) .nil) (.cons (.ite (.cmp .eq (.bi .len .f (.cons (.ix (.var 0) (.cst (.int 1))) .nil)) (.cst (.int 0))) (.cons (.ret (.cst (.bl false))) .nil) .nil) (.cons (.ret (.bi .all .f (.cons (.lc .f [("_law_at", 2), ("_law_row", 3)] (.enm (.ix (.var 0) (.cst (.int 1)))) (.tp (.cons (.nm 2) (.cons (.nm 3) .nil))) .non (.call "_law_whole_row_is" (.cons (.var 3) (.cons (.var 2) (.cons (.bi
  .len .f (.cons (.var 1) .nil)) .nil))))) .nil))) .nil)))⟩
def c__law_world : Df := ⟨"_law_world", 2, 6, (.cons (.asg (.nm 2) (.call "_law_box" (.cons (.var 0) (.cons (.cst (.int 0)) .nil)))) (.cons (.asg (.nm 3) (.ix (.lst .f (.cons (.tup (.cons (.cst (.str "x")) .nil)) (.cons (.tup (.cons (.cst (.str "y")) (.cons (.cst (.str "xq")) .nil))) (.cons (.tup (.cons (.cst (.str "b")) (.cons (.cst (.str "a")) (.cons (.cst (.str "zyx")) .nil)))) .nil)))) (.call
  "_law_take" (.cons (.var 2) (.cons (.cst (.int 3)) .nil))))) (.cons (.asg (.nm 4) (.call "_law_point" (.cons (.var 2) (.cons (.bi .len .f (.cons (.var 3) .nil)) .nil)))) (.cons (.asg (.nm 5) (.call "_law_take" (.cons (.var 2) (.cons (.cst (.int 3)) .nil)))) (.cons (.ret (.tup (.cons (.call "_law_pointed" (.cons (.call "_law_box" (.cons (.var 0) (.cons (.cst (.int 1)) .nil))) (.cons (.var 3)
  (.cons (.var 4) (.cons (.var 1) (.cons (.cst (.int 8)) (.cons (.var 5) .nil))))))) (.cons (.var 4) (.cons (.call "_law_box" (.cons (.var 0) (.cons (.cst (.int 2)) .nil))) .nil))))) .nil)))))⟩
def c_is_great : Df := ⟨"is_great", 3, 4, (.cons (.ret (.or (.cmp .gt (.bi .len .f (.cons (.var 0) .nil)) (.var 1)) (.cons (.cmp .gt (.mxd (.lc .f [("product", 3)] (.ex (.var 0)) (.nm 3) .non (.bi .len .f (.cons (.var 3) .nil))) (.cst (.int 0))) (.var 2)) .nil))) .nil)⟩
def c_row_form : Df := ⟨"row_form", 2, 3, (.cons (.asg (.nm 2) (.ix (.var 0) (.cst (.int 0)))) (.cons (.ite (.cmp .eq (.var 2) (.cst (.str "number"))) (.cons (.ret (.call "number_form" (.cons (.ix (.var 0) (.cst (.int 1))) .nil))) .nil) .nil) (.cons (.ite (.cmp .eq (.var 2) (.cst (.str "letter"))) (.cons (.ret (.call "mark_form" (.cons (.call "letter_mark" (.cons (.ix (.var 0) (.cst (.int 1)))
  .nil)) .nil))) .nil) .nil) (.cons (.ite (.cmp .eq (.var 2) (.cst (.str "plus"))) (.cons (.ret (.call "added" (.cons (.ix (.var 1) (.ix (.var 0) (.cst (.int 1)))) (.cons (.ix (.var 1) (.ix (.var 0) (.cst (.int 2)))) .nil)))) .nil) .nil) (.cons (.ite (.cmp .eq (.var 2) (.cst (.str "less"))) (.cons (.ret (.call "taken_off" (.cons (.ix (.var 1) (.ix (.var 0) (.cst (.int 1)))) (.cons (.ix (.var 1)
  (.ix (.var 0) (.cst (.int 2)))) .nil)))) .nil) .nil) (.cons (.ret (.call "multiplied" (.cons (.ix (.var 1) (.ix (.var 0) (.cst (.int 1)))) (.cons (.ix (.var 1) (.ix (.var 0) (.cst (.int 2)))) .nil)))) .nil))))))⟩
def c__law_form_number : Df := ⟨"_law_form_number", 1, 1, (.cons (.ite (.cmp .eq (.ix (.var 0) (.cst (.int 0))) (.cst (.int 0))) (.cons (.ret (.frz (.dnew true))) .nil) .nil) (.cons (.ret (.frz (.ddsp (.tup .nil) (.var 0)))) .nil))⟩
def c__law_form_mult : Df := ⟨"_law_form_mult", 2, 6, (.cons (.asg (.nm 2) (.frz (.dnew true))) (.cons (.for (.nm 3) (.ex (.var 0)) (.cons (.asg (.nm 4) (.dnew true)) (.cons (.for (.nm 5) (.ex (.var 1)) (.cons (.sub (.var 4) (.bi .tup .f (.cons (.bi .sorted .f (.cons (.op .add .f (.var 3) (.var 5)) .nil)) .nil)) (.call "_law_times" (.cons (.ix (.var 0) (.var 3)) (.cons (.ix (.var 1) (.var 5))
  .nil)))) .nil)) (.cons (.asg (.nm 2) (.call "_law_poly_add" (.cons (.var 2) (.cons (.var 4) (.cons (.cst (.int 1)) .nil))))) .nil)))) (.cons (.ret (.var 2)) .nil)))⟩
def c__law_reading : Df := ⟨"_law_reading", 5, 5, (.cons (.ite (.cmp .eq (.var 4) (.cst (.int 0))) (.cons (.ret (.call "_law_form_number" (.cons (.ix (.var 1) (.var 3)) .nil))) .nil) .nil) (.cons (.ite (.or (.cmp .eq (.ix (.ix (.var 0) (.var 3)) (.cst (.int 0))) (.cst (.str "letter"))) (.cons (.cmp .eq (.ix (.var 2) (.tup (.cons (.var 3) (.cons (.var 4) .nil)))) (.frz (.dnew true))) .nil)) (.cons
  (.ret (.ix (.var 2) (.tup (.cons (.var 3) (.cons (.var 4) .nil))))) .nil) .nil) (.cons (.ret (.frz (.ddsp (.tup (.cons (.tup (.cons (.var 3) (.cons (.var 4) .nil))) .nil)) (.tup (.cons (.cst (.int 1)) (.cons (.cst (.int 1)) .nil)))))) .nil)))⟩
def c__law_new_form : Df := ⟨"_law_new_form", 2, 4, (.cons (.ite (.cmp .eq (.ix (.var 0) (.cst (.int 0))) (.cst (.str "number"))) (.cons (.ret (.call "_law_form_number" (.cons (.ix (.var 0) (.cst (.int 1))) .nil))) .nil) .nil) (.cons (.ite (.cmp .eq (.ix (.var 0) (.cst (.int 0))) (.cst (.str "letter"))) (.cons (.ret (.frz (.ddsp (.tup (.cons (.tup (.cons (.neg (.cst (.int 1))) (.cons (.ix (.var 0)
  (.cst (.int 1))) .nil))) .nil)) (.tup (.cons (.cst (.int 1)) (.cons (.cst (.int 1)) .nil)))))) .nil) .nil) (.cons (.par 2 3 (.ix (.var 1) (.ix (.var 0) (.cst (.int 1)))) (.ix (.var 1) (.ix (.var 0) (.cst (.int 2))))) (.cons (.ite (.cmp .eq (.ix (.var 0) (.cst (.int 0))) (.cst (.str "times"))) (.cons (.ret (.call "_law_form_mult" (.cons (.var 2) (.cons (.var 3) .nil)))) .nil) .nil) (.cons (.ret
  (.call "_law_poly_add" (.cons (.var 2) (.cons (.var 3) (.cons (.ix (.lst .f (.cons (.cst (.int 1)) (.cons (.neg (.cst (.int 1))) .nil))) (.bi .int .f (.cons (.cmp .eq (.ix (.var 0) (.cst (.int 0))) (.cst (.str "less"))) .nil))) .nil))))) .nil)))))⟩
def c_is_row : Df := ⟨"is_row", 2, 2, (.cons (.ret (.and (.bi .isinst .f (.cons (.var 0) (.cons (.typ "tuple") .nil))) (.cons (.cmp .eq (.bi .len .f (.cons (.var 0) .nil)) (.var 1)) .nil))) .nil)⟩
def c_is_ahead : Df := ⟨"is_ahead", 2, 2, (.cons (.ret (.and (.call "is_whole" (.cons (.var 0) .nil)) (.cons (.chn .le .lt (.cst (.int 0)) (.var 0) (.var 1)) .nil))) .nil)⟩
def c_mix_degree : Df := ⟨"mix_degree", 2, 4, (.cons (.ite (.or (.not (.bi .isinst .f (.cons (.var 0) (.cons (.typ "tuple") .nil)))) (.cons (.cmp .eq (.bi .len .f (.cons (.var 0) .nil)) (.cst (.int 0))) .nil)) (.cons (.ret (.cst .non)) .nil) .nil) (.cons (.asg (.nm 2) (.neg (.cst (.int 1)))) (.cons (.for (.nm 3) (.ex (.var 0)) (.cons (.ite (.or (.not (.call "is_row" (.cons (.var 3) (.cons (.cst
  (.int 2)) .nil)))) (.cons (.not (.call "is_fraction" (.cons (.ix (.var 3) (.cst (.int 0))) .nil))) (.cons (.cmp .eq (.ix (.ix (.var 3) (.cst (.int 0))) (.cst (.int 0))) (.cst (.int 0))) .nil))) (.cons (.ret (.cst .non)) .nil) .nil) (.cons (.ite (.or (.not (.call "is_ahead" (.cons (.ix (.var 3) (.cst (.int 1))) (.cons (.bi .len .f (.cons (.var 1) .nil)) .nil)))) (.cons (.cmp .le (.ix (.var 3)
  (.cst (.int 1))) (.var 2)) (.cons (.cmp .ne (.ix (.var 1) (.ix (.var 3) (.cst (.int 1)))) (.ix (.var 1) (.ix (.ix (.var 0) (.cst (.int 0))) (.cst (.int 1))))) .nil))) (.cons (.ret (.cst .non)) .nil) .nil) (.cons (.asg (.nm 2) (.ix (.var 3) (.cst (.int 1)))) .nil)))) (.cons (.ret (.ix (.var 1) (.var 2))) .nil))))⟩
def c_node_degree : Df := ⟨"node_degree", 3, 3, (.cons (.ite (.and (.call "is_row" (.cons (.var 0) (.cons (.cst (.int 2)) .nil))) (.cons (.cmp .eq (.ix (.var 0) (.cst (.int 0))) (.cst (.str "letter"))) (.cons (.call "is_ahead" (.cons (.ix (.var 0) (.cst (.int 1))) (.cons (.var 1) .nil))) .nil))) (.cons (.ret (.cst (.int 1))) .nil) .nil) (.cons (.ite (.and (.call "is_row" (.cons (.var 0) (.cons
  (.cst (.int 2)) .nil))) (.cons (.cmp .eq (.ix (.var 0) (.cst (.int 0))) (.cst (.str "mix"))) .nil)) (.cons (.ret (.call "mix_degree" (.cons (.ix (.var 0) (.cst (.int 1))) (.cons (.var 2) .nil)))) .nil) .nil) (.cons (.ite (.or (.not (.call "is_row" (.cons (.var 0) (.cons (.cst (.int 3)) .nil)))) (.cons (.cmp .ne (.ix (.var 0) (.cst (.int 0))) (.cst (.str "times"))) .nil)) (.cons (.ret (.cst .non))
  .nil) .nil) (.cons (.ite (.or (.not (.call "is_ahead" (.cons (.ix (.var 0) (.cst (.int 1))) (.cons (.bi .len .f (.cons (.var 2) .nil)) .nil)))) (.cons (.not (.call "is_ahead" (.cons (.ix (.var 0) (.cst (.int 2))) (.cons (.bi .len .f (.cons (.var 2) .nil)) .nil)))) (.cons (.cmp .lt (.ix (.var 2) (.ix (.var 0) (.cst (.int 1)))) (.ix (.var 2) (.ix (.var 0) (.cst (.int 2))))) .nil))) (.cons (.ret
  (.cst .non)) .nil) .nil) (.cons (.ret (.op .add .f (.ix (.var 2) (.ix (.var 0) (.cst (.int 1)))) (.ix (.var 2) (.ix (.var 0) (.cst (.int 2)))))) .nil)))))⟩
def c_is_top : Df := ⟨"is_top", 2, 4, (.cons (.ite (.or (.not (.call "is_row" (.cons (.var 0) (.cons (.cst (.int 2)) .nil)))) (.cons (.not (.call "is_fraction" (.cons (.ix (.var 0) (.cst (.int 0))) .nil))) (.cons (.not (.bi .isinst .f (.cons (.ix (.var 0) (.cst (.int 1))) (.cons (.typ "tuple") .nil)))) .nil))) (.cons (.ret (.cst (.bl false))) .nil) .nil) (.cons (.for (.tp (.cons (.nm 2) (.cons (.nm
  3) .nil))) (.enm (.ix (.var 0) (.cst (.int 1)))) (.cons (.ite (.and (.cmp .notN (.var 3) (.cst .non)) (.cons (.or (.not (.call "is_ahead" (.cons (.var 3) (.cons (.bi .len .f (.cons (.var 1) .nil)) .nil)))) (.cons (.cmp .ne (.ix (.var 1) (.var 3)) (.op .add .f (.var 2) (.cst (.int 1)))) .nil)) .nil)) (.cons (.ret (.cst (.bl false))) .nil) .nil) .nil)) (.cons (.ret (.cst (.bl true))) .nil)))⟩
def c__law_factor : Df := ⟨"_law_factor", 1, 2, (.cons (.asg (.nm 1) (.call "_law_number" (.cons (.var 0) .nil))) (.cons (.ite (.cmp .eq (.ix (.var 1) (.cst (.int 0))) (.cst (.int 0))) (.cons (.ret (.tup (.cons (.cst (.int 3)) (.cons (.cst (.int 2)) .nil)))) .nil) .nil) (.cons (.ret (.var 1)) .nil)))⟩
def c__law_mix : Df := ⟨"_law_mix", 4, 6, (.cons (.asg (.nm 4) (.lst .t .nil)) (.cons (.for (.nm 5) (.rng (.cons (.bi .len .f (.cons (.var 1) .nil)) .nil)) (.cons (.ite (.and (.cmp .eq (.ix (.var 2) (.var 5)) (.ix (.var 2) (.var 3))) (.cons (.or (.cmp .eq (.var 5) (.var 3)) (.cons (.cmp .eq (.call "_law_take" (.cons (.var 0) (.cons (.cst (.int 3)) .nil))) (.cst (.int 0))) .nil)) .nil)) (.cons (.exp
  (.mt .append (.var 4) (.cons (.tup (.cons (.call "_law_factor" (.cons (.var 0) .nil)) (.cons (.var 5) .nil))) .nil))) .nil) .nil) .nil)) (.cons (.ret (.tup (.cons (.cst (.str "mix")) (.cons (.bi .tup .f (.cons (.frz (.var 4)) .nil)) .nil)))) .nil)))⟩
def c__law_nodes : Df := ⟨"_law_nodes", 5, 11, (.cons (.asg (.nm 5) (.bi .lis .t (.cons (.var 2) .nil))) (.cons (.asg (.nm 6) (.call "_law_high" (.cons (.var 5) .nil))) (.cons (.for (.nm 7) (.rng (.cons (.var 3) .nil)) (.cons (.asg (.nm 8) (.call "_law_take" (.cons (.var 0) (.cons (.cst (.int 6)) .nil)))) (.cons (.ite (.or (.cmp .eq (.bi .len .f (.cons (.var 5) .nil)) (.cst (.int 0))) (.cons (.cmp
  .eq (.var 8) (.cst (.int 0))) .nil)) (.cons (.exp (.mt .append (.var 5) (.cons (.tup (.cons (.cst (.str "letter")) (.cons (.call "_law_take" (.cons (.var 0) (.cons (.var 1) .nil))) .nil))) .nil))) (.cons (.exp (.mt .append (.var 6) (.cons (.cst (.int 1)) .nil))) (.cons .cnt .nil))) .nil) (.cons (.asg (.nm 9) (.ix (.lst .f (.cons (.op .sub .f (.bi .len .f (.cons (.var 5) .nil)) (.cst (.int 1)))
  (.cons (.call "_law_take" (.cons (.var 0) (.cons (.bi .len .f (.cons (.var 5) .nil)) .nil))) .nil))) (.call "_law_take" (.cons (.var 0) (.cons (.cst (.int 2)) .nil))))) (.cons (.asg (.nm 10) (.call "_law_take" (.cons (.var 0) (.cons (.bi .len .f (.cons (.var 5) .nil)) .nil)))) (.cons (.ite (.or (.cmp .lt (.var 8) (.cst (.int 3))) (.cons (.cmp .gt (.op .add .f (.ix (.var 6) (.var 9)) (.ix (.var 6)
  (.var 10))) (.var 4)) .nil)) (.cons (.exp (.mt .append (.var 5) (.cons (.call "_law_mix" (.cons (.var 0) (.cons (.var 5) (.cons (.var 6) (.cons (.var 9) .nil))))) .nil))) (.cons (.exp (.mt .append (.var 6) (.cons (.ix (.var 6) (.var 9)) .nil))) .nil)) (.cons (.exp (.mt .append (.var 5) (.cons (.tup (.cons (.cst (.str "times")) (.cons (.ix (.lst .f (.cons (.var 9) (.cons (.var 10) .nil))) (.bi
  .int .f (.cons (.cmp .lt (.ix (.var 6) (.var 9)) (.ix (.var 6) (.var 10))) .nil))) (.cons (.ix (.lst .f (.cons (.var 10) (.cons (.var 9) .nil))) (.bi .int .f (.cons (.cmp .lt (.ix (.var 6) (.var 9)) (.ix (.var 6) (.var 10))) .nil))) .nil)))) .nil))) (.cons (.exp (.mt .append (.var 6) (.cons (.op .add .f (.ix (.var 6) (.var 9)) (.ix (.var 6) (.var 10))) .nil))) .nil))) .nil)))))) (.cons (.ret (.bi
  .tup .f (.cons (.frz (.var 5)) .nil))) .nil))))⟩
def c__law_high : Df := ⟨"_law_high", 1, 3, (.cons (.asg (.nm 1) (.lst .t .nil)) (.cons (.for (.nm 2) (.ex (.var 0)) (.cons (.ite (.cmp .eq (.ix (.var 2) (.cst (.int 0))) (.cst (.str "letter"))) (.cons (.exp (.mt .append (.var 1) (.cons (.cst (.int 1)) .nil))) .nil) (.cons (.ite (.cmp .eq (.ix (.var 2) (.cst (.int 0))) (.cst (.str "mix"))) (.cons (.exp (.mt .append (.var 1) (.cons (.ix (.var 1)
  (.ix (.ix (.ix (.var 2) (.cst (.int 1))) (.cst (.int 0))) (.cst (.int 1)))) .nil))) .nil) (.cons (.exp (.mt .append (.var 1) (.cons (.op .add .f (.ix (.var 1) (.ix (.var 2) (.cst (.int 1)))) (.ix (.var 1) (.ix (.var 2) (.cst (.int 2))))) .nil))) .nil)) .nil)) .nil)) (.cons (.ret (.frz (.var 1))) .nil)))⟩
def c__law_top : Df := ⟨"_law_top", 3, 9, (.cons (.asg (.nm 3) (.call "_law_high" (.cons (.var 1) .nil))) (.cons (.asg (.nm 4) (.lst .t .nil)) (.cons (.for (.nm 5) (.rng (.cons (.cst (.int 1)) (.cons (.op .add .f (.var 2) (.cst (.int 1))) .nil))) (.cons (.asg (.nm 6) (.lc .f [("_law_n", 8)] (.rng (.cons (.bi .len .f (.cons (.var 1) .nil)) .nil)) (.nm 8) (.som (.cmp .eq (.ix (.var 3) (.var 8)) (.var
  5))) (.var 8))) (.cons (.asg (.nm 7) (.call "_law_take" (.cons (.var 0) (.cons (.cst (.int 4)) .nil)))) (.cons (.ite (.or (.cmp .eq (.bi .len .f (.cons (.var 6) .nil)) (.cst (.int 0))) (.cons (.cmp .eq (.var 7) (.cst (.int 0))) .nil)) (.cons (.exp (.mt .append (.var 4) (.cons (.cst .non) .nil))) .nil) (.cons (.ite (.cmp .lt (.var 7) (.cst (.int 3))) (.cons (.exp (.mt .append (.var 4) (.cons (.ix
  (.var 6) (.neg (.cst (.int 1)))) .nil))) .nil) (.cons (.exp (.mt .append (.var 4) (.cons (.ix (.var 6) (.call "_law_take" (.cons (.var 0) (.cons (.bi .len .f (.cons (.var 6) .nil)) .nil)))) .nil))) .nil)) .nil)) .nil)))) (.cons (.ret (.tup (.cons (.call "_law_number" (.cons (.var 0) .nil)) (.cons (.bi .tup .f (.cons (.sl .f (.frz (.var 4)) .non (.som (.op .add .f (.op .mul .f (.call "_law_take"
  (.cons (.var 0) (.cons (.cst (.int 2)) .nil))) (.var 2)) (.call "_law_take" (.cons (.var 0) (.cons (.op .add .f (.var 2) (.cst (.int 1))) .nil)))))) .nil)) .nil)))) .nil))))⟩
def c_degrees : Df := ⟨"degrees", 1, 3, (.cons (.asg (.nm 1) (.lst .t .nil)) (.cons (.for (.nm 2) (.ex (.ix (.var 0) (.cst (.int 1)))) (.cons (.exp (.mt .append (.var 1) (.cons (.call "node_degree" (.cons (.var 2) (.cons (.bi .len .f (.cons (.ix (.var 0) (.cst (.int 0))) .nil)) (.cons (.var 1) .nil)))) .nil))) .nil)) (.cons (.ret (.frz (.var 1))) .nil)))⟩
def c_mixed : Df := ⟨"mixed", 3, 6, (.cons (.asg (.nm 3) (.tup .nil)) (.cons (.for (.tp (.cons (.nm 4) (.cons (.nm 5) .nil))) (.ex (.var 1)) (.cons (.asg (.nm 3) (.call "poly_plus" (.cons (.var 3) (.cons (.call "poly_times" (.cons (.call "number_poly" (.cons (.var 0) (.cons (.var 4) .nil))) (.cons (.ix (.var 2) (.var 5)) .nil))) .nil)))) .nil)) (.cons (.ret (.var 3)) .nil)))⟩
def c_net_polys : Df := ⟨"net_polys", 1, 4, (.cons (.asg (.nm 1) (.bi .len .f (.cons (.ix (.var 0) (.cst (.int 0))) .nil))) (.cons (.asg (.nm 2) (.lst .t .nil)) (.cons (.for (.nm 3) (.ex (.ix (.var 0) (.cst (.int 1)))) (.cons (.ite (.cmp .eq (.ix (.var 3) (.cst (.int 0))) (.cst (.str "letter"))) (.cons (.exp (.mt .append (.var 2) (.cons (.call "letter_poly" (.cons (.var 1) (.cons (.ix (.var 3)
  (.cst (.int 1))) .nil))) .nil))) .nil) (.cons (.ite (.cmp .eq (.ix (.var 3) (.cst (.int 0))) (.cst (.str "mix"))) (.cons (.exp (.mt .append (.var 2) (.cons (.call "mixed" (.cons (.var 1) (.cons (.ix (.var 3) (.cst (.int 1))) (.cons (.var 2) .nil)))) .nil))) .nil) (.cons (.exp (.mt .append (.var 2) (.cons (.call "poly_times" (.cons (.ix (.var 2) (.ix (.var 3) (.cst (.int 1)))) (.cons (.ix (.var 2)
  (.ix (.var 3) (.cst (.int 2)))) .nil))) .nil))) .nil)) .nil)) .nil)) (.cons (.ret (.frz (.var 2))) .nil))))⟩
def c_net_poly : Df := ⟨"net_poly", 1, 4, (.cons (.asg (.nm 1) (.call "net_polys" (.cons (.var 0) .nil))) (.cons (.asg (.nm 2) (.call "number_poly" (.cons (.bi .len .f (.cons (.ix (.var 0) (.cst (.int 0))) .nil)) (.cons (.ix (.ix (.var 0) (.cst (.int 2))) (.cst (.int 0))) .nil)))) (.cons (.for (.nm 3) (.ex (.ix (.ix (.var 0) (.cst (.int 2))) (.cst (.int 1)))) (.cons (.ite (.cmp .notN (.var 3) (.cst
  .non)) (.cons (.asg (.nm 2) (.call "poly_plus" (.cons (.var 2) (.cons (.ix (.var 1) (.var 3)) .nil)))) .nil) .nil) .nil)) (.cons (.ret (.var 2)) .nil))))⟩
def c__law_net : Df := ⟨"_law_net", 4, 5, (.cons (.asg (.nm 4) (.call "_law_nodes" (.cons (.var 0) (.cons (.bi .len .f (.cons (.var 1) .nil)) (.cons (.tup .nil) (.cons (.call "_law_take" (.cons (.var 0) (.cons (.op .add .f (.var 2) (.cst (.int 1))) .nil))) (.cons (.var 3) .nil))))))) (.cons (.ret (.tup (.cons (.var 1) (.cons (.var 4) (.cons (.call "_law_top" (.cons (.var 0) (.cons (.var 4) (.cons
  (.var 3) .nil)))) .nil))))) .nil))⟩
def c__law_scaled : Df := ⟨"_law_scaled", 2, 4, (.cons (.asg (.nm 2) (.dnew true)) (.cons (.for (.nm 3) (.ex (.var 0)) (.cons (.ite (.cmp .ne (.ix (.var 1) (.cst (.int 0))) (.cst (.int 0))) (.cons (.sub (.var 2) (.var 3) (.call "_law_times" (.cons (.ix (.var 0) (.var 3)) (.cons (.var 1) .nil)))) .nil) .nil) .nil)) (.cons (.ret (.frz (.var 2))) .nil)))⟩
def c__law_net_polys : Df := ⟨"_law_net_polys", 1, 7, (.cons (.asg (.nm 1) (.bi .len .f (.cons (.ix (.var 0) (.cst (.int 0))) .nil))) (.cons (.asg (.nm 2) (.lst .t .nil)) (.cons (.for (.nm 3) (.ex (.ix (.var 0) (.cst (.int 1)))) (.cons (.ite (.cmp .eq (.ix (.var 3) (.cst (.int 0))) (.cst (.str "letter"))) (.cons (.exp (.mt .append (.var 2) (.cons (.call "_law_poly_letter" (.cons (.var 1) (.cons
  (.ix (.var 3) (.cst (.int 1))) .nil))) .nil))) .nil) (.cons (.ite (.cmp .eq (.ix (.var 3) (.cst (.int 0))) (.cst (.str "times"))) (.cons (.exp (.mt .append (.var 2) (.cons (.call "_law_poly_mult" (.cons (.ix (.var 2) (.ix (.var 3) (.cst (.int 1)))) (.cons (.ix (.var 2) (.ix (.var 3) (.cst (.int 2)))) .nil))) .nil))) .nil) (.cons (.asg (.nm 4) (.frz (.dnew true))) (.cons (.for (.tp (.cons (.nm 5)
  (.cons (.nm 6) .nil))) (.ex (.ix (.var 3) (.cst (.int 1)))) (.cons (.asg (.nm 4) (.call "_law_poly_add" (.cons (.var 4) (.cons (.call "_law_scaled" (.cons (.ix (.var 2) (.var 6)) (.cons (.var 5) .nil))) (.cons (.cst (.int 1)) .nil))))) .nil)) (.cons (.exp (.mt .append (.var 2) (.cons (.var 4) .nil))) .nil)))) .nil)) .nil)) (.cons (.ret (.frz (.var 2))) .nil))))⟩
def c_named_anew : Df := ⟨"named_anew", 2, 4, (.cons (.ite (.cmp .eq (.ix (.var 0) (.cst (.int 0))) (.cst (.str "letter"))) (.cons (.ret (.var 0)) .nil) .nil) (.cons (.ite (.cmp .eq (.ix (.var 0) (.cst (.int 0))) (.cst (.str "mix"))) (.cons (.ret (.tup (.cons (.cst (.str "mix")) (.cons (.bi .tup .f (.cons (.lc .f [("number", 2), ("part", 3)] (.ex (.ix (.var 0) (.cst (.int 1)))) (.tp (.cons (.nm 2)
  (.cons (.nm 3) .nil))) .non (.tup (.cons (.var 2) (.cons (.ix (.var 1) (.var 3)) .nil)))) .nil)) .nil)))) .nil) .nil) (.cons (.ret (.tup (.cons (.cst (.str "times")) (.cons (.ix (.var 1) (.ix (.var 0) (.cst (.int 1)))) (.cons (.ix (.var 1) (.ix (.var 0) (.cst (.int 2)))) .nil))))) .nil)))⟩
def c__law_good_fraction : Df := ⟨"_law_good_fraction", 1, 1, (.cons (.ite (.or (.not (.bi .isinst .f (.cons (.var 0) (.cons (.typ "tuple") .nil)))) (.cons (.cmp .ne (.bi .len .f (.cons (.var 0) .nil)) (.cst (.int 2))) (.cons (.not (.call "_law_whole" (.cons (.ix (.var 0) (.cst (.int 0))) .nil))) (.cons (.not (.call "_law_whole" (.cons (.ix (.var 0) (.cst (.int 1))) .nil))) (.cons (.cmp .lt (.ix
  (.var 0) (.cst (.int 1))) (.cst (.int 1))) .nil))))) (.cons (.ret (.cst (.bl false))) .nil) .nil) (.cons (.ret (.cmp .eq (.call "_law_fraction" (.cons (.ix (.var 0) (.cst (.int 0))) (.cons (.ix (.var 0) (.cst (.int 1))) .nil))) (.var 0))) .nil))⟩
def c__law_below : Df := ⟨"_law_below", 2, 2, (.cons (.ret (.and (.call "_law_whole" (.cons (.var 0) .nil)) (.cons (.chn .le .lt (.cst (.int 0)) (.var 0) (.var 1)) .nil))) .nil)⟩
def c_shares_of : Df := ⟨"shares_of", 2, 7, (.cons (.asg (.nm 2) (.bi .len .f (.cons (.ix (.var 0) (.cst (.int 0))) .nil))) (.cons (.asg (.nm 3) (.call "net_polys" (.cons (.var 0) .nil))) (.cons (.asg (.nm 4) (.lst .t .nil)) (.cons (.for (.tp (.cons (.nm 5) (.cons (.nm 6) .nil))) (.enm (.ix (.var 0) (.cst (.int 1)))) (.cons (.ite (.cmp .eq (.var 5) (.var 1)) (.cons (.exp (.mt .append (.var 4)
  (.cons (.call "number_poly" (.cons (.var 2) (.cons (.tup (.cons (.cst (.int 1)) (.cons (.cst (.int 1)) .nil))) .nil))) .nil))) .nil) (.cons (.ite (.cmp .eq (.ix (.var 6) (.cst (.int 0))) (.cst (.str "mix"))) (.cons (.exp (.mt .append (.var 4) (.cons (.call "mixed" (.cons (.var 2) (.cons (.ix (.var 6) (.cst (.int 1))) (.cons (.var 4) .nil)))) .nil))) .nil) (.cons (.ite (.cmp .eq (.ix (.var 6)
  (.cst (.int 0))) (.cst (.str "times"))) (.cons (.exp (.mt .append (.var 4) (.cons (.call "poly_times" (.cons (.ix (.var 4) (.ix (.var 6) (.cst (.int 1)))) (.cons (.ix (.var 3) (.ix (.var 6) (.cst (.int 2)))) .nil))) .nil))) .nil) (.cons (.exp (.mt .append (.var 4) (.cons (.tup .nil) .nil))) .nil)) .nil)) .nil)) .nil)) (.cons (.ret (.frz (.var 4))) .nil)))))⟩
def c_share : Df := ⟨"share", 3, 3, (.cons (.ret (.ix (.call "shares_of" (.cons (.var 0) (.cons (.var 2) .nil))) (.var 1))) .nil)⟩
def c_border : Df := ⟨"border", 2, 5, (.cons (.asg (.nm 2) (.call "degrees" (.cons (.var 0) .nil))) (.cons (.ret (.lc .f [("t", 3), ("node", 4)] (.enm (.ix (.var 0) (.cst (.int 1)))) (.tp (.cons (.nm 3) (.cons (.nm 4) .nil))) (.som (.and (.cmp .eq (.ix (.var 4) (.cst (.int 0))) (.cst (.str "times"))) (.cons (.chn .le .lt (.ix (.var 2) (.ix (.var 4) (.cst (.int 1)))) (.var 1) (.ix (.var 2) (.var
  3))) .nil))) (.var 3))) .nil))⟩
def c__law_border : Df := ⟨"_law_border", 3, 4, (.cons (.ret (.lc .f [("_law_t", 3)] (.rng (.cons (.bi .len .f (.cons (.var 0) .nil)) .nil)) (.nm 3) (.som (.and (.cmp .eq (.ix (.ix (.var 0) (.var 3)) (.cst (.int 0))) (.cst (.str "times"))) (.cons (.chn .le .lt (.ix (.var 1) (.ix (.ix (.var 0) (.var 3)) (.cst (.int 1)))) (.var 2) (.ix (.var 1) (.var 3))) .nil))) (.var 3))) .nil)⟩
def c__wall : Df := ⟨"_wall", 1, 1, (.cons (.whl (.cst (.bl true)) (.cons .pas .nil)) .nil)⟩
def c_linear_polys : Df := ⟨"linear_polys", 2, 6, (.cons (.asg (.nm 2) (.bi .len .f (.cons (.ix (.var 0) (.cst (.int 0))) .nil))) (.cons (.asg (.nm 3) (.lst .t .nil)) (.cons (.for (.tp (.cons (.nm 4) (.cons (.nm 5) .nil))) (.enm (.ix (.var 0) (.cst (.int 1)))) (.cons (.ite (.cmp .gt (.ix (.var 1) (.var 4)) (.cst (.int 1))) (.cons (.exp (.mt .append (.var 3) (.cons (.cst .non) .nil))) .nil) (.cons
  (.ite (.cmp .eq (.ix (.var 5) (.cst (.int 0))) (.cst (.str "mix"))) (.cons (.exp (.mt .append (.var 3) (.cons (.call "mixed" (.cons (.var 2) (.cons (.ix (.var 5) (.cst (.int 1))) (.cons (.var 3) .nil)))) .nil))) .nil) (.cons (.exp (.mt .append (.var 3) (.cons (.call "letter_poly" (.cons (.var 2) (.cons (.ix (.var 5) (.cst (.int 1))) .nil))) .nil))) .nil)) .nil)) .nil)) (.cons (.ret (.frz (.var
  3))) .nil))))⟩
def c_near_shares : Df := ⟨"near_shares", 4, 8, (.cons (.asg (.nm 4) (.bi .len .f (.cons (.ix (.var 0) (.cst (.int 0))) .nil))) (.cons (.asg (.nm 5) (.lst .t .nil)) (.cons (.for (.tp (.cons (.nm 6) (.cons (.nm 7) .nil))) (.enm (.ix (.var 0) (.cst (.int 1)))) (.cons (.ite (.cmp .gt (.ix (.var 2) (.var 6)) (.op .add .f (.ix (.var 2) (.var 1)) (.cst (.int 1)))) (.cons (.exp (.mt .append (.var 5)
  (.cons (.cst .non) .nil))) .nil) (.cons (.ite (.cmp .eq (.var 6) (.var 1)) (.cons (.exp (.mt .append (.var 5) (.cons (.call "number_poly" (.cons (.var 4) (.cons (.tup (.cons (.cst (.int 1)) (.cons (.cst (.int 1)) .nil))) .nil))) .nil))) .nil) (.cons (.ite (.cmp .eq (.ix (.var 7) (.cst (.int 0))) (.cst (.str "mix"))) (.cons (.exp (.mt .append (.var 5) (.cons (.call "mixed" (.cons (.var 4) (.cons
  (.ix (.var 7) (.cst (.int 1))) (.cons (.var 5) .nil)))) .nil))) .nil) (.cons (.ite (.and (.cmp .eq (.ix (.var 7) (.cst (.int 0))) (.cst (.str "times"))) (.cons (.cmp .gt (.bi .len .f (.cons (.ix (.var 5) (.ix (.var 7) (.cst (.int 1)))) .nil)) (.cst (.int 0))) .nil)) (.cons (.exp (.mt .append (.var 5) (.cons (.call "poly_times" (.cons (.ix (.var 5) (.ix (.var 7) (.cst (.int 1)))) (.cons (.ix (.var
  3) (.ix (.var 7) (.cst (.int 2)))) .nil))) .nil))) .nil) (.cons (.exp (.mt .append (.var 5) (.cons (.tup .nil) .nil))) .nil)) .nil)) .nil)) .nil)) .nil)) (.cons (.ret (.frz (.var 5))) .nil))))⟩
def c_plain_noughts : Df := ⟨"plain_noughts", 2, 7, (.cons (.asg (.nm 2) (.lst .t .nil)) (.cons (.for (.tp (.cons (.nm 3) (.cons (.nm 4) .nil))) (.enm (.ix (.var 0) (.cst (.int 1)))) (.cons (.ite (.cmp .eq (.var 3) (.var 1)) (.cons (.exp (.mt .append (.var 2) (.cons (.cst (.bl false)) .nil))) .nil) (.cons (.ite (.cmp .eq (.ix (.var 4) (.cst (.int 0))) (.cst (.str "mix"))) (.cons (.exp (.mt .append
  (.var 2) (.cons (.bi .all .f (.cons (.lc .f [("number", 5), ("part", 6)] (.ex (.ix (.var 4) (.cst (.int 1)))) (.tp (.cons (.nm 5) (.cons (.nm 6) .nil))) .non (.ix (.var 2) (.var 6))) .nil)) .nil))) .nil) (.cons (.ite (.cmp .eq (.ix (.var 4) (.cst (.int 0))) (.cst (.str "times"))) (.cons (.exp (.mt .append (.var 2) (.cons (.ix (.var 2) (.ix (.var 4) (.cst (.int 1)))) .nil))) .nil) (.cons (.exp
  (.mt .append (.var 2) (.cons (.cst (.bl true)) .nil))) .nil)) .nil)) .nil)) .nil)) (.cons (.ret (.frz (.var 2))) .nil)))⟩
def c_halvings : Df := ⟨"halvings", 1, 3, (.cons (.asg (.nm 1) (.cst (.int 0))) (.cons (.asg (.nm 2) (.cst (.int 1))) (.cons (.whl (.cmp .lt (.var 2) (.var 0)) (.cons (.asg (.nm 2) (.op .mul .f (.var 2) (.cst (.int 2)))) (.cons (.asg (.nm 1) (.op .add .f (.var 1) (.cst (.int 1)))) .nil))) (.cons (.ret (.var 1)) .nil))))⟩
def c_sizes : Df := ⟨"sizes", 1, 6, (.cons (.asg (.nm 1) (.call "degrees" (.cons (.var 0) .nil))) (.cons (.asg (.nm 2) (.bi .len .f (.cons (.lc .f [("node", 4)] (.ex (.ix (.var 0) (.cst (.int 1)))) (.nm 4) (.som (.cmp .eq (.ix (.var 4) (.cst (.int 0))) (.cst (.str "times")))) (.var 4)) .nil))) (.cons (.asg (.nm 3) (.mxd (.lc .f [("out", 5)] (.ex (.ix (.ix (.var 0) (.cst (.int 2))) (.cst (.int 1))))
  (.nm 5) (.som (.cmp .notN (.var 5) (.cst .non))) (.ix (.var 1) (.var 5))) (.cst (.int 0)))) (.cons (.ret (.tup (.cons (.bi .len .f (.cons (.ix (.var 0) (.cst (.int 0))) .nil)) (.cons (.bi .len .f (.cons (.ix (.var 0) (.cst (.int 1))) .nil)) (.cons (.var 2) (.cons (.var 3) .nil)))))) .nil))))⟩
def c_depth_told : Df := ⟨"depth_told", 1, 5, (.cons (.asg (.tp (.cons (.nm 1) (.cons (.nm 2) (.cons (.nm 3) (.cons (.nm 4) .nil))))) (.call "sizes" (.cons (.var 0) .nil))) (.cons (.ret (.op .add .f (.op .add .f (.op .add .f (.cst (.int 1)) (.call "halvings" (.cons (.var 1) .nil))) (.op .mul .f (.call "halvings" (.cons (.var 4) .nil)) (.op .add .f (.cst (.int 4)) (.op .mul .f (.cst (.int 2)) (.call
  "halvings" (.cons (.var 3) .nil)))))) (.call "halvings" (.cons (.op .add .f (.var 4) (.cst (.int 1))) .nil)))) .nil))⟩
def c_rows_told : Df := ⟨"rows_told", 1, 5, (.cons (.asg (.tp (.cons (.nm 1) (.cons (.nm 2) (.cons (.nm 3) (.cons (.nm 4) .nil))))) (.call "sizes" (.cons (.var 0) .nil))) (.cons (.ret (.op .add .f (.op .add .f (.op .add .f (.op .mul .f (.op .add .f (.var 2) (.op .mul .f (.var 2) (.var 2))) (.op .add .f (.op .add .f (.op .mul .f (.cst (.int 4)) (.var 3)) (.op .mul .f (.cst (.int 3)) (.var 1))) (.cst
  (.int 2)))) (.var 1)) (.var 4)) (.cst (.int 4)))) .nil))⟩
def c__law_other : Df := ⟨"_law_other", 2, 8, (.cons (.asg (.tp (.cons (.nm 2) (.cons (.nm 3) .nil))) (.var 1)) (.cons (.asg (.nm 4) (.op .sub .f (.bi .len .f (.cons (.var 3) .nil)) (.cst (.int 1)))) (.cons (.asg (.nm 5) (.call "_law_take" (.cons (.var 0) (.cons (.bi .len .f (.cons (.var 2) .nil)) .nil)))) (.cons (.asg (.nm 6) (.ix (.lst .f (.cons (.tup (.cons (.cst (.str "number")) (.cons (.call
  "_law_small" (.cons (.var 0) .nil)) .nil))) (.cons (.tup (.cons (.cst (.str "letter")) (.cons (.var 5) .nil))) (.cons (.tup (.cons (.cst (.str "letter")) (.cons (.var 5) .nil))) .nil)))) (.call "_law_take" (.cons (.var 0) (.cons (.cst (.int 3)) .nil))))) (.cons (.asg (.nm 7) (.op .add .t (.bi .lis .f (.cons (.var 3) .nil)) (.lst .f (.cons (.var 6) .nil)))) (.cons (.ite (.cmp .eq (.call
  "_law_take" (.cons (.var 0) (.cons (.cst (.int 2)) .nil))) (.cst (.int 0))) (.cons (.exp (.mt .extend (.var 7) (.cons (.lst .f (.cons (.tup (.cons (.cst (.str "letter")) (.cons (.call "_law_take" (.cons (.var 0) (.cons (.bi .len .f (.cons (.var 2) .nil)) .nil))) .nil))) (.cons (.tup (.cons (.cst (.str "times")) (.cons (.op .sub .f (.bi .len .f (.cons (.var 7) .nil)) (.cst (.int 1))) (.cons (.bi
  .len .f (.cons (.var 7) .nil)) .nil)))) .nil))) .nil))) .nil) .nil) (.cons (.exp (.mt .append (.var 7) (.cons (.tup (.cons (.ix (.lst .f (.cons (.cst (.str "plus")) (.cons (.cst (.str "less")) .nil))) (.call "_law_take" (.cons (.var 0) (.cons (.cst (.int 2)) .nil)))) (.cons (.var 4) (.cons (.op .sub .f (.bi .len .f (.cons (.var 7) .nil)) (.cst (.int 1))) .nil)))) .nil))) (.cons (.ret (.tup (.cons
  (.var 2) (.cons (.bi .tup .f (.cons (.frz (.var 7)) .nil)) .nil)))) .nil))))))))⟩
def c_are_numbers : Df := ⟨"are_numbers", 1, 2, (.cons (.ret (.bi .all .f (.cons (.lc .f [("one", 1)] (.ex (.var 0)) (.nm 1) .non (.bi .isinst .f (.cons (.var 1) (.cons (.typ "int") .nil)))) .nil))) .nil)⟩
def c_entry_fits : Df := ⟨"entry_fits", 2, 4, (.cons (.ite (.or (.not (.bi .isinst .f (.cons (.var 1) (.cons (.typ "tuple") .nil)))) (.cons (.cmp .ne (.bi .len .f (.cons (.var 1) .nil)) (.cst (.int 2))) .nil)) (.cons (.ret (.cst (.bl false))) .nil) .nil) (.cons (.asg (.tp (.cons (.nm 2) (.cons (.nm 3) .nil))) (.var 1)) (.cons (.ite (.or (.not (.bi .isinst .f (.cons (.var 2) (.cons (.typ "tuple")
  .nil)))) (.cons (.cmp .ne (.bi .len .f (.cons (.var 2) .nil)) (.cst (.int 2))) (.cons (.not (.call "are_numbers" (.cons (.var 2) .nil))) .nil))) (.cons (.ret (.cst (.bl false))) .nil) .nil) (.cons (.ite (.or (.cmp .eq (.ix (.var 2) (.cst (.int 0))) (.cst (.int 0))) (.cons (.cmp .lt (.ix (.var 2) (.cst (.int 1))) (.cst (.int 1))) (.cons (.cmp .ne (.call "fraction" (.cons (.ix (.var 2) (.cst (.int
  0))) (.cons (.ix (.var 2) (.cst (.int 1))) .nil))) (.var 2)) .nil))) (.cons (.ret (.cst (.bl false))) .nil) .nil) (.cons (.ret (.or (.cmp .isN (.var 3) (.cst .non)) (.cons (.and (.bi .isinst .f (.cons (.var 3) (.cons (.typ "int") .nil))) (.cons (.chn .le .lt (.cst (.int 0)) (.var 3) (.bi .len .f (.cons (.var 0) .nil))) .nil)) .nil))) .nil)))))⟩
def c__law_multiple : Df := ⟨"_law_multiple", 1, 2, (.cons (.asg (.nm 1) (.call "_law_take" (.cons (.var 0) (.cons (.cst (.int 12)) .nil)))) (.cons (.ite (.cmp .lt (.var 1) (.cst (.int 7))) (.cons (.ret (.ix (.lst .f (.cons (.tup (.cons (.cst (.int 0)) (.cons (.cst (.int 1)) .nil))) (.cons (.tup (.cons (.cst (.int 1)) (.cons (.cst (.int 1)) .nil))) (.cons (.tup (.cons (.cst (.int 1)) (.cons (.cst
  (.int 1)) .nil))) (.cons (.tup (.cons (.neg (.cst (.int 1))) (.cons (.cst (.int 1)) .nil))) (.cons (.tup (.cons (.cst (.int 2)) (.cons (.cst (.int 1)) .nil))) (.cons (.tup (.cons (.cst (.int 1)) (.cons (.cst (.int 2)) .nil))) (.cons (.tup (.cons (.neg (.cst (.int 2))) (.cons (.cst (.int 3)) .nil))) .nil)))))))) (.var 1))) .nil) .nil) (.cons (.ite (.cmp .lt (.var 1) (.cst (.int 11))) (.cons (.ret
  (.call "_law_fraction" (.cons (.op .sub .f (.call "_law_take" (.cons (.var 0) (.cons (.cst (.int 19)) .nil))) (.cst (.int 9))) (.cons (.op .add .f (.cst (.int 1)) (.call "_law_take" (.cons (.var 0) (.cons (.cst (.int 4)) .nil)))) .nil)))) .nil) .nil) (.cons (.ret (.call "_law_fraction" (.cons (.op .sub .f (.call "_law_take" (.cons (.var 0) (.cons (.cst (.int 1999999)) .nil))) (.cst (.int
  999999))) (.cons (.op .add .f (.cst (.int 1)) (.call "_law_take" (.cons (.var 0) (.cons (.cst (.int 4)) .nil)))) .nil)))) .nil))))⟩
def c__law_entry : Df := ⟨"_law_entry", 3, 5, (.cons (.asg (.nm 3) (.call "_law_multiple" (.cons (.var 0) .nil))) (.cons (.ite (.and (.cmp .eq (.ix (.var 3) (.cst (.int 0))) (.cst (.int 0))) (.cons (.not (.var 2)) .nil)) (.cons (.asg (.nm 3) (.tup (.cons (.cst (.int 1)) (.cons (.cst (.int 1)) .nil)))) .nil) .nil) (.cons (.asg (.nm 4) (.call "_law_take" (.cons (.var 0) (.cons (.op .add .f (.var 1)
  (.cst (.int 1))) .nil)))) (.cons (.ite (.cmp .eq (.var 4) (.var 1)) (.cons (.ret (.tup (.cons (.var 3) (.cons (.cst .non) .nil)))) .nil) .nil) (.cons (.ret (.tup (.cons (.ix (.lst .f (.cons (.var 3) (.cons (.tup (.cons (.cst (.int 1)) (.cons (.cst (.int 1)) .nil))) .nil))) (.call "_law_take" (.cons (.var 0) (.cons (.cst (.int 2)) .nil)))) (.cons (.var 4) .nil)))) .nil)))))⟩
def c__law_web : Df := ⟨"_law_web", 3, 9, (.cons (.asg (.nm 3) (.op .add .f (.cst (.int 2)) (.call "_law_take" (.cons (.var 0) (.cons (.op .sub .f (.var 2) (.cst (.int 1))) .nil))))) (.cons (.asg (.nm 4) (.call "_law_take" (.cons (.var 0) (.cons (.cst (.int 4)) .nil)))) (.cons (.asg (.nm 5) (.lst .t .nil)) (.cons (.for (.nm 6) (.rng (.cons (.op .sub .f (.var 3) (.cst (.int 1))) .nil)) (.cons (.for
  (.nm 7) (.rng (.cons (.op .add .f (.var 6) (.cst (.int 1))) (.cons (.var 3) .nil))) (.cons (.asg (.nm 8) (.ix (.lst .f (.cons (.cst (.int 4)) (.cons (.cst (.int 2)) (.cons (.cst (.int 1)) (.cons (.op .add .f (.cst (.int 1)) (.op .mul .f (.cst (.int 3)) (.bi .int .f (.cons (.cmp .eq (.var 7) (.op .add .f (.var 6) (.cst (.int 1)))) .nil)))) .nil))))) (.var 4))) (.cons (.ite (.cmp .lt (.call
  "_law_take" (.cons (.var 0) (.cons (.cst (.int 4)) .nil))) (.var 8)) (.cons (.exp (.mt .append (.var 5) (.cons (.tup (.cons (.var 6) (.cons (.var 7) (.cons (.call "_law_entry" (.cons (.var 0) (.cons (.bi .len .f (.cons (.var 1) .nil)) (.cons (.cst (.bl false)) .nil)))) .nil)))) .nil))) .nil) .nil) .nil))) .nil)) (.cons (.ret (.tup (.cons (.var 1) (.cons (.var 3) (.cons (.bi .tup .f (.cons (.frz
  (.var 5)) .nil)) .nil))))) .nil)))))⟩
def c_entry_poly : Df := ⟨"entry_poly", 2, 5, (.cons (.asg (.tp (.cons (.nm 2) (.cons (.nm 3) .nil))) (.var 0)) (.cons (.ret (.call "poly" (.cons (.lst .f (.cons (.tup (.cons (.bi .tup .f (.cons (.lc .f [("k", 4)] (.rng (.cons (.var 1) .nil)) (.nm 4) .non (.bi .int .f (.cons (.cmp .eq (.var 4) (.var 3)) .nil))) .nil)) (.cons (.var 2) .nil))) .nil)) .nil))) .nil))⟩
def c_web_poly : Df := ⟨"web_poly", 1, 9, (.cons (.asg (.tp (.cons (.nm 1) (.cons (.nm 2) (.cons (.nm 3) .nil)))) (.var 0)) (.cons (.asg (.nm 4) (.bi .len .f (.cons (.var 1) .nil))) (.cons (.asg (.nm 5) (.op .add .t (.lst .f (.cons (.call "poly" (.cons (.lst .f (.cons (.tup (.cons (.op .mul .f (.tup (.cons (.cst (.int 0)) .nil)) (.var 4)) (.cons (.glb "ONE" (.tup [(.int 1), (.int 1)])) .nil)))
  .nil)) .nil)) .nil)) (.op .mul .f (.lst .f (.cons (.tup .nil) .nil)) (.op .sub .f (.var 2) (.cst (.int 1)))))) (.cons (.for (.tp (.cons (.nm 6) (.cons (.nm 7) (.cons (.nm 8) .nil)))) (.ex (.var 3)) (.cons (.sub (.var 5) (.var 7) (.call "poly_plus" (.cons (.ix (.var 5) (.var 7)) (.cons (.call "poly_times" (.cons (.ix (.var 5) (.var 6)) (.cons (.call "entry_poly" (.cons (.var 8) (.cons (.var 4)
  .nil))) .nil))) .nil)))) .nil)) (.cons (.ret (.ix (.frz (.var 5)) (.neg (.cst (.int 1))))) .nil)))))⟩
def c_widths : Df := ⟨"widths", 1, 3, (.cons (.asg (.nm 1) (.lst .t .nil)) (.cons (.for (.nm 2) (.ex (.ix (.var 0) (.cst (.int 1)))) (.cons (.ite (.cmp .inn (.ix (.var 2) (.cst (.int 0))) (.tup (.cons (.cst (.str "number")) (.cons (.cst (.str "letter")) .nil)))) (.cons (.exp (.mt .append (.var 1) (.cons (.cst (.int 1)) .nil))) .nil) (.cons (.exp (.mt .append (.var 1) (.cons (.op .add .f (.op .add
  .f (.ix (.var 1) (.ix (.var 2) (.cst (.int 1)))) (.ix (.var 1) (.ix (.var 2) (.cst (.int 2))))) (.bi .int .f (.cons (.cmp .ne (.ix (.var 2) (.cst (.int 0))) (.cst (.str "plus"))) .nil))) .nil))) .nil)) .nil)) (.cons (.ret (.frz (.var 1))) .nil)))⟩
def c_width : Df := ⟨"width", 1, 1, (.cons (.ret (.ix (.call "widths" (.cons (.var 0) .nil)) (.neg (.cst (.int 1))))) .nil)⟩
def c__law_entry_poly : Df := ⟨"_law_entry_poly", 2, 5, (.cons (.asg (.tp (.cons (.nm 2) (.cons (.nm 3) .nil))) (.var 0)) (.cons (.ite (.cmp .eq (.ix (.var 2) (.cst (.int 0))) (.cst (.int 0))) (.cons (.ret (.frz (.dnew true))) .nil) .nil) (.cons (.ret (.frz (.ddsp (.bi .tup .f (.cons (.lc .f [("_law_k", 4)] (.rng (.cons (.var 1) .nil)) (.nm 4) .non (.bi .int .f (.cons (.cmp .eq (.var 4) (.var 3))
  .nil))) .nil)) (.var 2)))) .nil)))⟩
def c__law_is_whole : Df := ⟨"_law_is_whole", 1, 1, (.cons (.ret (.and (.bi .isinst .f (.cons (.var 0) (.cons (.typ "int") .nil))) (.cons (.not (.bi .isinst .f (.cons (.var 0) (.cons (.typ "bool") .nil)))) .nil))) .nil)⟩
def c_columns_in : Df := ⟨"columns_in", 2, 3, (.cons (.ret (.lc .f [("k", 2)] (.rng (.cons (.var 1) .nil)) (.nm 2) (.som (.cmp .eq (.op .band .f (.op .shr .f (.var 0) (.var 2)) (.cst (.int 1))) (.cst (.int 1)))) (.var 2))) .nil)⟩
def c_chosen_sum : Df := ⟨"chosen_sum", 4, 10, (.cons (.asg (.nm 4) (.call "columns_in" (.cons (.var 1) (.cons (.bi .len .f (.cons (.var 0) .nil)) .nil)))) (.cons (.asg (.nm 5) (.ix (.var 0) (.op .sub .f (.bi .len .f (.cons (.var 4) .nil)) (.cst (.int 1))))) (.cons (.asg (.nm 6) (.tup .nil)) (.cons (.for (.tp (.cons (.nm 7) (.cons (.nm 8) .nil))) (.enm (.var 4)) (.cons (.asg (.nm 9) (.call
  "poly_times" (.cons (.ix (.var 2) (.op .bxor .f (.var 1) (.op .shl .f (.cst (.int 1)) (.var 8)))) (.cons (.call "entry_poly" (.cons (.ix (.var 5) (.var 8)) (.cons (.var 3) .nil))) .nil)))) (.cons (.ite (.cmp .eq (.op .mod .f (.op .sub .f (.op .sub .f (.bi .len .f (.cons (.var 4) .nil)) (.cst (.int 1))) (.var 7)) (.cst (.int 2))) (.cst (.int 0))) (.cons (.asg (.nm 6) (.call "poly_plus" (.cons
  (.var 6) (.cons (.var 9) .nil)))) .nil) (.cons (.asg (.nm 6) (.call "poly_less" (.cons (.var 6) (.cons (.var 9) .nil)))) .nil)) .nil))) (.cons (.ret (.var 6)) .nil)))))⟩
def c_signed_sum : Df := ⟨"signed_sum", 1, 6, (.cons (.asg (.tp (.cons (.nm 1) (.cons (.nm 2) .nil))) (.var 0)) (.cons (.asg (.nm 3) (.bi .len .f (.cons (.var 1) .nil))) (.cons (.asg (.nm 4) (.lst .t (.cons (.call "poly" (.cons (.lst .f (.cons (.tup (.cons (.op .mul .f (.tup (.cons (.cst (.int 0)) .nil)) (.var 3)) (.cons (.glb "ONE" (.tup [(.int 1), (.int 1)])) .nil))) .nil)) .nil)) .nil))) (.cons
  (.for (.nm 5) (.rng (.cons (.cst (.int 1)) (.cons (.op .shl .f (.cst (.int 1)) (.bi .len .f (.cons (.var 2) .nil))) .nil))) (.cons (.exp (.mt .append (.var 4) (.cons (.call "chosen_sum" (.cons (.var 2) (.cons (.var 5) (.cons (.var 4) (.cons (.var 3) .nil))))) .nil))) .nil)) (.cons (.ret (.ix (.frz (.var 4)) (.neg (.cst (.int 1))))) .nil)))))⟩
def c__law_table : Df := ⟨"_law_table", 3, 10, (.cons (.asg (.nm 3) (.op .add .f (.cst (.int 1)) (.call "_law_take" (.cons (.var 0) (.cons (.var 2) .nil))))) (.cons (.asg (.nm 4) (.call "_law_take" (.cons (.var 0) (.cons (.cst (.int 3)) .nil)))) (.cons (.asg (.nm 5) (.lst .t .nil)) (.cons (.for (.nm 6) (.rng (.cons (.var 3) .nil)) (.cons (.asg (.nm 7) (.lst .t .nil)) (.cons (.for (.nm 8) (.rng
  (.cons (.var 3) .nil)) (.cons (.asg (.nm 9) (.call "_law_entry" (.cons (.var 0) (.cons (.bi .len .f (.cons (.var 1) .nil)) (.cons (.cst (.bl true)) .nil))))) (.cons (.ite (.and (.cmp .eq (.var 4) (.cst (.int 2))) (.cons (.cmp .eq (.call "_law_take" (.cons (.var 0) (.cons (.cst (.int 3)) .nil))) (.cst (.int 0))) .nil)) (.cons (.asg (.nm 9) (.tup (.cons (.tup (.cons (.cst (.int 0)) (.cons (.cst
  (.int 1)) .nil))) (.cons (.cst .non) .nil)))) .nil) .nil) (.cons (.exp (.mt .append (.var 7) (.cons (.var 9) .nil))) .nil)))) (.cons (.exp (.mt .append (.var 5) (.cons (.bi .tup .f (.cons (.var 7) .nil)) .nil))) .nil)))) (.cons (.ret (.tup (.cons (.var 1) (.cons (.bi .tup .f (.cons (.frz (.var 5)) .nil)) .nil)))) .nil)))))⟩
def c_table_of : Df := ⟨"table_of", 1, 10, (.cons (.asg (.tp (.cons (.nm 1) (.cons (.nm 2) (.cons (.nm 3) .nil)))) (.var 0)) (.cons (.asg (.nm 4) (.dnew true)) (.cons (.for (.tp (.cons (.nm 5) (.cons (.nm 6) (.cons (.nm 7) .nil)))) (.ex (.var 3)) (.cons (.sub (.var 4) (.tup (.cons (.var 5) (.cons (.var 6) .nil))) (.var 7)) .nil)) (.cons (.for (.nm 8) (.rng (.cons (.cst (.int 1)) (.cons (.op .sub .f
  (.var 2) (.cst (.int 1))) .nil))) (.cons (.sub (.var 4) (.tup (.cons (.var 8) (.cons (.var 8) .nil))) (.glb "TURNED" (.tup [(.tup [(.int (-1)), (.int 1)]), .non]))) .nil)) (.cons (.asg (.nm 9) (.lst .t .nil)) (.cons (.for (.nm 5) (.rng (.cons (.op .sub .f (.var 2) (.cst (.int 1))) .nil)) (.cons (.exp (.mt .append (.var 9) (.cons (.bi .tup .f (.cons (.lc .f [("end", 6)] (.rng (.cons (.cst (.int
  1)) (.cons (.var 2) .nil))) (.nm 6) .non (.dget (.var 4) (.tup (.cons (.var 5) (.cons (.var 6) .nil))) (.glb "NO_ENTRY" (.tup [(.tup [(.int 0), (.int 1)]), .non])))) .nil)) .nil))) .nil)) (.cons (.ret (.tup (.cons (.var 1) (.cons (.bi .tup .f (.cons (.frz (.var 9)) .nil)) .nil)))) .nil)))))))⟩
def c_dot_of : Df := ⟨"dot_of", 4, 6, (.cons (.asg (.nm 4) (.bi .sum .f (.cons (.lc .f [("k", 5)] (.rng (.cons (.var 2) .nil)) (.nm 5) .non (.op .sub .f (.var 0) (.var 5))) .nil))) (.cons (.ret (.op .sub .f (.op .add .f (.op .add .f (.op .add .f (.cst (.int 1)) (.op .mul .f (.var 1) (.op .fdiv .f (.op .mul .f (.var 0) (.op .add .f (.var 0) (.cst (.int 1)))) (.cst (.int 2))))) (.var 4)) (.var 3))
  (.var 2))) .nil))⟩
def c_grid_points : Df := ⟨"grid_points", 2, 7, (.cons (.asg (.nm 2) (.lst .f (.cons (.tup .nil) .nil))) (.cons (.for (.nm 3) (.rng (.cons (.var 0) .nil)) (.cons (.asg (.nm 4) (.lst .t .nil)) (.cons (.for (.nm 5) (.ex (.var 2)) (.cons (.exp (.mt .extend (.var 4) (.cons (.lc .f [("n", 6)] (.rng (.cons (.op .add .f (.var 1) (.cst (.int 1))) .nil)) (.nm 6) .non (.op .add .f (.var 5) (.tup (.cons (.var
  6) .nil)))) .nil))) .nil)) (.cons (.asg (.nm 2) (.frz (.var 4))) .nil)))) (.cons (.ret (.var 2)) .nil)))⟩
def c_as_point : Df := ⟨"as_point", 1, 2, (.cons (.ret (.bi .tup .f (.cons (.lc .f [("n", 1)] (.ex (.var 0)) (.nm 1) .non (.call "fraction" (.cons (.var 1) (.cons (.cst (.int 1)) .nil)))) .nil))) .nil)⟩
def c_first_apart : Df := ⟨"first_apart", 2, 4, (.cons (.asg (.nm 2) (.cst (.int 0))) (.cons (.whl (.cst (.bl true)) (.cons (.for (.nm 3) (.ex (.call "grid_points" (.cons (.var 0) (.cons (.var 2) .nil)))) (.cons (.ite (.and (.cmp .eq (.bi .max1 .f (.cons (.var 3) .nil)) (.var 2)) (.cons (.cmp .ne (.ix (.call "value" (.cons (.var 1) (.cons (.call "as_point" (.cons (.var 3) .nil)) .nil))) (.cst (.int
  0))) (.cst (.int 0))) .nil)) (.cons (.ret (.call "as_point" (.cons (.var 3) .nil))) .nil) .nil) .nil)) (.cons (.asg (.nm 2) (.op .add .f (.var 2) (.cst (.int 1)))) .nil))) .nil))⟩
def c_parted : Df := ⟨"parted", 2, 5, (.cons (.asg (.tp (.cons (.nm 2) (.cons (.nm 3) .nil))) (.call "polynomials" (.cons (.var 0) (.cons (.var 1) .nil)))) (.cons (.asg (.nm 4) (.call "poly_less" (.cons (.var 2) (.cons (.var 3) .nil)))) (.cons (.ite (.cmp .eq (.var 4) (.tup .nil)) (.cons (.ret (.tup (.cons (.cst (.str "alike")) (.cons (.var 2) .nil)))) .nil) .nil) (.cons (.ret (.tup (.cons (.cst
  (.str "part")) (.cons (.call "first_apart" (.cons (.bi .len .f (.cons (.ix (.var 0) (.cst (.int 0))) .nil)) (.cons (.var 4) .nil))) .nil)))) .nil))))⟩
def c__law_polys : Df := ⟨"_law_polys", 1, 8, (.cons (.asg (.tp (.cons (.nm 1) (.cons (.nm 2) .nil))) (.var 0)) (.cons (.asg (.nm 3) (.bi .len .f (.cons (.var 1) .nil))) (.cons (.asg (.nm 4) (.lst .t .nil)) (.cons (.for (.nm 5) (.ex (.var 2)) (.cons (.ite (.cmp .eq (.ix (.var 5) (.cst (.int 0))) (.cst (.str "number"))) (.cons (.exp (.mt .append (.var 4) (.cons (.call "_law_poly_number" (.cons (.var
  3) (.cons (.ix (.var 5) (.cst (.int 1))) .nil))) .nil))) .nil) (.cons (.ite (.cmp .eq (.ix (.var 5) (.cst (.int 0))) (.cst (.str "letter"))) (.cons (.exp (.mt .append (.var 4) (.cons (.call "_law_poly_letter" (.cons (.var 3) (.cons (.ix (.var 5) (.cst (.int 1))) .nil))) .nil))) .nil) (.cons (.ite (.cmp .eq (.ix (.var 5) (.cst (.int 0))) (.cst (.str "times"))) (.cons (.exp (.mt .append (.var 4)
  (.cons (.call "_law_poly_mult" (.cons (.ix (.var 4) (.ix (.var 5) (.cst (.int 1)))) (.cons (.ix (.var 4) (.ix (.var 5) (.cst (.int 2)))) .nil))) .nil))) .nil) (.cons (.ite (.cmp .eq (.ix (.var 5) (.cst (.int 0))) (.cst (.str "over"))) (.cons (.asg (.nm 6) (.ix (.var 2) (.ix (.var 5) (.cst (.int 1))))) (.cons (.exp (.mt .append (.var 4) (.cons (.ix (.var 4) (.ix (.var 6) (.op .add .f (.cst (.int
  1)) (.bi .int .f (.cons (.cmp .eq (.ix (.var 6) (.cst (.int 1))) (.ix (.var 5) (.cst (.int 2)))) .nil))))) .nil))) .nil)) (.cons (.asg (.nm 7) (.ix (.lst .f (.cons (.cst (.int 1)) (.cons (.neg (.cst (.int 1))) .nil))) (.bi .int .f (.cons (.cmp .eq (.ix (.var 5) (.cst (.int 0))) (.cst (.str "less"))) .nil)))) (.cons (.exp (.mt .append (.var 4) (.cons (.call "_law_poly_add" (.cons (.ix (.var 4)
  (.ix (.var 5) (.cst (.int 1)))) (.cons (.ix (.var 4) (.ix (.var 5) (.cst (.int 2)))) (.cons (.var 7) .nil)))) .nil))) .nil))) .nil)) .nil)) .nil)) .nil)) (.cons (.ret (.frz (.var 4))) .nil)))))⟩
def c__law_grid : Df := ⟨"_law_grid", 2, 7, (.cons (.asg (.nm 2) (.lst .f (.cons (.tup .nil) .nil))) (.cons (.for (.nm 3) (.rng (.cons (.var 0) .nil)) (.cons (.asg (.nm 4) (.lst .t .nil)) (.cons (.for (.nm 5) (.ex (.var 2)) (.cons (.exp (.mt .extend (.var 4) (.cons (.lc .f [("_law_n", 6)] (.rng (.cons (.op .add .f (.var 1) (.cst (.int 1))) .nil)) (.nm 6) .non (.op .add .f (.var 5) (.tup (.cons
  (.var 6) .nil)))) .nil))) .nil)) (.cons (.asg (.nm 2) (.frz (.var 4))) .nil)))) (.cons (.ret (.var 2)) .nil)))⟩
def c__law_nought_at : Df := ⟨"_law_nought_at", 2, 3, (.cons (.ret (.cmp .eq (.ix (.call "_law_value" (.cons (.var 0) (.cons (.lc .f [("_law_n", 2)] (.ex (.var 1)) (.nm 2) .non (.tup (.cons (.var 2) (.cons (.cst (.int 1)) .nil)))) .nil))) (.cst (.int 0))) (.cst (.int 0)))) .nil)⟩
def c_failing : Df := ⟨"failing", 3, 10, (.cons (.asg (.tp (.cons (.nm 3) (.cons (.nm 4) .nil))) (.call "polynomials" (.cons (.var 0) (.cons (.var 1) .nil)))) (.cons (.asg (.nm 5) (.call "poly_less" (.cons (.var 3) (.cons (.var 4) .nil)))) (.cons (.asg (.nm 6) (.bi .len .f (.cons (.ix (.var 0) (.cst (.int 0))) .nil))) (.cons (.asg (.nm 7) (.call "grid_points" (.cons (.var 6) (.cons (.op .sub .f
  (.var 2) (.cst (.int 1))) .nil)))) (.cons (.ite (.cmp .eq (.var 5) (.tup .nil)) (.cons (.ret (.tup (.cons (.bi .len .f (.cons (.var 7) .nil)) (.cons (.bi .len .f (.cons (.var 7) .nil)) .nil)))) .nil) .nil) (.cons (.asg (.nm 8) (.lc .f [("numbers", 9)] (.ex (.var 7)) (.nm 9) (.som (.cmp .eq (.ix (.call "value" (.cons (.var 5) (.cons (.call "as_point" (.cons (.var 9) .nil)) .nil))) (.cst (.int 0)))
  (.cst (.int 0)))) (.var 9))) (.cons (.ret (.tup (.cons (.bi .len .f (.cons (.var 8) .nil)) (.cons (.op .mul .f (.call "degree" (.cons (.var 5) .nil)) (.op .fdiv .f (.bi .len .f (.cons (.var 7) .nil)) (.var 2))) .nil)))) .nil)))))))⟩
def c_wholes_of : Df := ⟨"wholes_of", 1, 4, (.cons (.asg (.nm 1) (.op .mul .t (.lst .f (.cons (.cst (.int 0)) .nil)) (.op .add .f (.glb "GREATEST" (.int 4)) (.cst (.int 1))))) (.cons (.for (.tp (.cons (.nm 2) (.cons (.nm 3) .nil))) (.ex (.var 0)) (.cons (.ite (.or (.cmp .gt (.ix (.var 2) (.cst (.int 0))) (.glb "GREATEST" (.int 4))) (.cons (.cmp .ne (.ix (.var 3) (.cst (.int 1))) (.cst (.int 1)))
  .nil)) (.cons (.ret (.cst .non)) .nil) .nil) (.cons (.sub (.var 1) (.ix (.var 2) (.cst (.int 0))) (.ix (.var 3) (.cst (.int 0)))) .nil))) (.cons (.ret (.frz (.var 1))) .nil)))⟩
def c_mixes_of : Df := ⟨"mixes_of", 1, 11, (.cons (.asg (.nm 1) (.lst .f (.cons (.tup (.cons (.tup .nil) (.cons (.op .mul .f (.lst .f (.cons (.cst (.int 0)) .nil)) (.op .add .f (.glb "GREATEST" (.int 4)) (.cst (.int 1)))) .nil))) .nil))) (.cons (.for (.nm 2) (.ex (.var 0)) (.cons (.asg (.nm 3) (.lst .t .nil)) (.cons (.for (.tp (.cons (.nm 4) (.cons (.nm 5) .nil))) (.ex (.var 1)) (.cons (.for (.nm
  6) (.ex (.glb "SIGNS" (.tup [(.int 0), (.int 1), (.int (-1))]))) (.cons (.exp (.mt .append (.var 3) (.cons (.tup (.cons (.op .add .f (.var 4) (.tup (.cons (.var 6) .nil))) (.cons (.lc .f [("a", 9), ("b", 10)] (.zip (.var 5) (.var 2)) (.tp (.cons (.nm 9) (.cons (.nm 10) .nil))) .non (.op .add .f (.var 9) (.op .mul .f (.var 6) (.var 10)))) .nil))) .nil))) .nil)) .nil)) (.cons (.asg (.nm 1) (.frz
  (.var 3))) .nil)))) (.cons (.asg (.nm 7) (.lst .t .nil)) (.cons (.for (.tp (.cons (.nm 4) (.cons (.nm 5) .nil))) (.ex (.var 1)) (.cons (.asg (.nm 8) (.lc .f [("sign", 6)] (.rev (.var 4)) (.nm 6) (.som (.cmp .ne (.var 6) (.cst (.int 0)))) (.var 6))) (.cons (.ite (.and (.cmp .ne (.var 8) (.lst .f .nil)) (.cons (.cmp .eq (.ix (.var 8) (.cst (.int 0))) (.cst (.int 1))) .nil)) (.cons (.exp (.mt
  .append (.var 7) (.cons (.tup (.cons (.var 4) (.cons (.var 5) .nil))) .nil))) .nil) .nil) .nil))) (.cons (.ret (.frz (.var 7))) .nil)))))⟩
def c_is_small : Df := ⟨"is_small", 1, 1, (.cons (.ret (.and (.cmp .inn (.ix (.var 0) (.cst (.int 0))) (.glb "SIGNS" (.tup [(.int 0), (.int 1), (.int (-1))]))) (.cons (.cmp .inn (.ix (.var 0) (.cst (.int 1))) (.glb "SIGNS" (.tup [(.int 0), (.int 1), (.int (-1))]))) (.cons (.cmp .eq (.sl .f (.var 0) (.som (.cst (.int 2))) .non) (.op .mul .f (.lst .f (.cons (.cst (.int 0)) .nil)) (.op .sub .f (.glb
  "GREATEST" (.int 4)) (.cst (.int 1))))) .nil)))) .nil)⟩
def c_without : Df := ⟨"without", 3, 5, (.cons (.ret (.lc .f [("a", 3), ("b", 4)] (.zip (.var 0) (.var 2)) (.tp (.cons (.nm 3) (.cons (.nm 4) .nil))) .non (.op .sub .f (.var 3) (.op .mul .f (.var 1) (.var 4))))) .nil)⟩
def c_pairs_of : Df := ⟨"pairs_of", 1, 6, (.cons (.asg (.nm 1) (.call "mixes_of" (.cons (.var 0) .nil))) (.cons (.asg (.nm 2) (.lst .t .nil)) (.cons (.for (.tp (.cons (.nm 3) (.cons (.nm 4) .nil))) (.enm (.var 1)) (.cons (.for (.nm 5) (.ex (.sl .f (.var 1) (.som (.var 3)) .non)) (.cons (.exp (.mt .append (.var 2) (.cons (.tup (.cons (.ix (.var 4) (.cst (.int 0))) (.cons (.ix (.var 5) (.cst (.int
  0))) (.cons (.call "multiplied" (.cons (.ix (.var 4) (.cst (.int 1))) (.cons (.ix (.var 5) (.cst (.int 1))) .nil))) .nil)))) .nil))) .nil)) .nil)) (.cons (.ret (.frz (.var 2))) .nil))))⟩
def c_plan_of : Df := ⟨"plan_of", 1, 12, (.cons (.asg (.nm 1) (.lst .f (.cons (.lst .f (.cons (.cst (.int 1)) (.cons (.cst (.int 0)) (.cons (.cst (.int 0)) (.cons (.cst (.int 0)) (.cons (.cst (.int 0)) .nil)))))) (.cons (.lst .f (.cons (.cst (.int 0)) (.cons (.cst (.int 1)) (.cons (.cst (.int 0)) (.cons (.cst (.int 0)) (.cons (.cst (.int 0)) .nil)))))) .nil)))) (.cons (.ite (.call "is_small" (.cons
  (.var 0) .nil)) (.cons (.ret (.tup (.cons (.lst .f .nil) (.cons (.tup (.cons (.ix (.var 0) (.cst (.int 0))) (.cons (.ix (.var 0) (.cst (.int 1))) .nil))) .nil)))) .nil) .nil) (.cons (.asg (.nm 2) (.call "pairs_of" (.cons (.var 1) .nil))) (.cons (.for (.tp (.cons (.nm 3) (.cons (.nm 4) (.cons (.nm 5) .nil)))) (.ex (.var 2)) (.cons (.for (.nm 6) (.ex (.tup (.cons (.cst (.int 1)) (.cons (.neg (.cst
  (.int 1))) .nil)))) (.cons (.asg (.nm 7) (.call "without" (.cons (.var 0) (.cons (.var 6) (.cons (.var 5) .nil))))) (.cons (.ite (.call "is_small" (.cons (.var 7) .nil)) (.cons (.ret (.tup (.cons (.lst .f (.cons (.tup (.cons (.var 3) (.cons (.var 4) .nil))) .nil)) (.cons (.tup (.cons (.ix (.var 7) (.cst (.int 0))) (.cons (.ix (.var 7) (.cst (.int 1))) (.cons (.var 6) .nil)))) .nil)))) .nil) .nil)
  .nil))) .nil)) (.cons (.for (.tp (.cons (.nm 3) (.cons (.nm 4) (.cons (.nm 5) .nil)))) (.ex (.var 2)) (.cons (.for (.tp (.cons (.nm 8) (.cons (.nm 9) (.cons (.nm 10) .nil)))) (.ex (.call "pairs_of" (.cons (.op .add .f (.var 1) (.lst .f (.cons (.var 5) .nil))) .nil))) (.cons (.for (.nm 6) (.ex (.tup (.cons (.cst (.int 1)) (.cons (.neg (.cst (.int 1))) .nil)))) (.cons (.ite (.cmp .ne (.ix (.var 0)
  (.glb "GREATEST" (.int 4))) (.op .mul .f (.var 6) (.ix (.var 10) (.glb "GREATEST" (.int 4))))) (.cons .cnt .nil) .nil) (.cons (.for (.nm 11) (.ex (.glb "SIGNS" (.tup [(.int 0), (.int 1), (.int (-1))]))) (.cons (.asg (.nm 7) (.call "without" (.cons (.call "without" (.cons (.var 0) (.cons (.var 6) (.cons (.var 10) .nil)))) (.cons (.var 11) (.cons (.var 5) .nil))))) (.cons (.ite (.call "is_small"
  (.cons (.var 7) .nil)) (.cons (.ret (.tup (.cons (.lst .f (.cons (.tup (.cons (.var 3) (.cons (.var 4) .nil))) (.cons (.tup (.cons (.var 8) (.cons (.var 9) .nil))) .nil))) (.cons (.tup (.cons (.ix (.var 7) (.cst (.int 0))) (.cons (.ix (.var 7) (.cst (.int 1))) (.cons (.var 11) (.cons (.var 6) .nil))))) .nil)))) .nil) .nil) .nil))) .nil))) .nil)) .nil)) (.cons (.ret (.cst .non)) .nil))))))⟩
def c__law_list_product : Df := ⟨"_law_list_product", 2, 5, (.cons (.asg (.nm 2) (.op .mul .t (.lst .f (.cons (.cst (.int 0)) .nil)) (.cst (.int 5)))) (.cons (.for (.nm 3) (.rng (.cons (.cst (.int 5)) .nil)) (.cons (.for (.nm 4) (.rng (.cons (.op .sub .f (.cst (.int 5)) (.var 3)) .nil)) (.cons (.sub (.var 2) (.op .add .f (.var 3) (.var 4)) (.op .add .f (.ix (.var 2) (.op .add .f (.var 3) (.var 4)))
  (.op .mul .f (.ix (.var 0) (.var 3)) (.ix (.var 1) (.var 4))))) .nil)) .nil)) (.cons (.ret (.frz (.var 2))) .nil)))⟩
def c__law_signs : Df := ⟨"_law_signs", 2, 3, (.cons (.ret (.lc .f [("_law_k", 2)] (.rng (.cons (.var 1) .nil)) (.nm 2) .non (.ix (.lst .f (.cons (.cst (.int 0)) (.cons (.cst (.int 1)) (.cons (.cst (.int 1)) (.cons (.neg (.cst (.int 1))) .nil))))) (.call "_law_take" (.cons (.var 0) (.cons (.cst (.int 4)) .nil)))))) .nil)⟩
def c__law_small_one : Df := ⟨"_law_small_one", 2, 5, (.cons (.asg (.nm 2) (.lst .t (.cons (.lst .f (.cons (.cst (.int 1)) (.cons (.cst (.int 0)) (.cons (.cst (.int 0)) (.cons (.cst (.int 0)) (.cons (.cst (.int 0)) .nil)))))) (.cons (.lst .f (.cons (.cst (.int 0)) (.cons (.cst (.int 1)) (.cons (.cst (.int 0)) (.cons (.cst (.int 0)) (.cons (.cst (.int 0)) .nil)))))) .nil)))) (.cons (.for (.nm 3)
  (.rng (.cons (.var 1) .nil)) (.cons (.asg (.nm 4) (.call "_law_mix" (.cons (.call "_law_signs" (.cons (.var 0) (.cons (.bi .len .f (.cons (.var 2) .nil)) .nil))) (.cons (.var 2) .nil)))) (.cons (.exp (.mt .append (.var 2) (.cons (.call "_law_list_product" (.cons (.var 4) (.cons (.call "_law_mix" (.cons (.call "_law_signs" (.cons (.var 0) (.cons (.bi .len .f (.cons (.var 2) .nil)) .nil))) (.cons
  (.var 2) .nil))) .nil))) .nil))) .nil))) (.cons (.ret (.call "_law_mix" (.cons (.call "_law_signs" (.cons (.var 0) (.cons (.bi .len .f (.cons (.var 2) .nil)) .nil))) (.cons (.frz (.var 2)) .nil)))) .nil)))⟩
def c__law_poly_of : Df := ⟨"_law_poly_of", 1, 3, (.cons (.ret (.bi .tup .f (.cons (.lc .f [("_law_k", 1), ("_law_n", 2)] (.enm (.var 0)) (.tp (.cons (.nm 1) (.cons (.nm 2) .nil))) (.som (.cmp .ne (.var 2) (.cst (.int 0)))) (.tup (.cons (.tup (.cons (.var 1) .nil)) (.cons (.tup (.cons (.var 2) (.cons (.cst (.int 1)) .nil))) .nil)))) .nil))) .nil)⟩
def c_pair_text : Df := ⟨"pair_text", 2, 3, (.cons (.ret (.op .add .f (.op .add .f (.call "fraction_text" (.cons (.var 1) .nil)) (.cst (.str ":"))) (.tm .join .f (.cst (.str ",")) (.lc .f [("power", 2)] (.ex (.var 0)) (.nm 2) .non (.bi .str .f (.cons (.var 2) .nil)))))) .nil)⟩
def c_point_text : Df := ⟨"point_text", 1, 2, (.cons (.ret (.tm .join .f (.cst (.str " ")) (.lc .f [("f", 1)] (.ex (.var 0)) (.nm 1) .non (.call "fraction_text" (.cons (.var 1) .nil))))) .nil)⟩
def c_poly_text : Df := ⟨"poly_text", 1, 3, (.cons (.ite (.cmp .eq (.bi .len .f (.cons (.var 0) .nil)) (.cst (.int 0))) (.cons (.ret (.cst (.str "0"))) .nil) .nil) (.cons (.ret (.tm .join .f (.cst (.str " ")) (.lc .f [("powers", 1), ("f", 2)] (.ex (.var 0)) (.tp (.cons (.nm 1) (.cons (.nm 2) .nil))) .non (.call "pair_text" (.cons (.var 1) (.cons (.var 2) .nil)))))) .nil))⟩
def c__law_kept : Df := ⟨"_law_kept", 1, 11, (.cons (.asg (.tp (.cons (.nm 1) (.cons (.nm 2) .nil))) (.var 0)) (.cons (.asg (.nm 3) (.lc .t [("_law_k", 10)] (.rng (.cons (.bi .len .f (.cons (.var 1) .nil)) .nil)) (.nm 10) .non (.tup (.cons (.cst (.str "letter")) (.cons (.var 10) .nil))))) (.cons (.asg (.nm 4) (.dnew true)) (.cons (.for (.tp (.cons (.nm 5) (.cons (.nm 6) .nil))) (.enm (.var 2))
  (.cons (.ite (.cmp .eq (.bi .len .f (.cons (.var 6) .nil)) (.cst (.int 3))) (.cons (.asg (.nm 7) (.lst .t .nil)) (.cons (.for (.nm 8) (.ex (.sl .f (.var 6) (.som (.cst (.int 1))) .non)) (.cons (.ite (.cmp .eq (.ix (.ix (.var 2) (.var 8)) (.cst (.int 0))) (.cst (.str "number"))) (.cons (.exp (.mt .append (.var 3) (.cons (.ix (.var 2) (.var 8)) .nil))) (.cons (.exp (.mt .append (.var 7) (.cons (.op
  .sub .f (.bi .len .f (.cons (.var 3) .nil)) (.cst (.int 1))) .nil))) .nil)) (.cons (.exp (.mt .append (.var 7) (.cons (.ix (.lst .f (.cons (.dget (.var 4) (.var 8) (.cst (.int 0))) (.cons (.ix (.ix (.var 2) (.var 8)) (.cst (.int 1))) .nil))) (.bi .int .f (.cons (.cmp .eq (.ix (.ix (.var 2) (.var 8)) (.cst (.int 0))) (.cst (.str "letter"))) .nil))) .nil))) .nil)) .nil)) (.cons (.exp (.mt .append
  (.var 3) (.cons (.tup (.cons (.ix (.var 6) (.cst (.int 0))) (.cons (.ix (.var 7) (.cst (.int 0))) (.cons (.ix (.var 7) (.cst (.int 1))) .nil)))) .nil))) (.cons (.sub (.var 4) (.var 5) (.op .sub .f (.bi .len .f (.cons (.var 3) .nil)) (.cst (.int 1)))) .nil)))) .nil) .nil)) (.cons (.asg (.nm 9) (.ix (.var 2) (.neg (.cst (.int 1))))) (.cons (.ite (.cmp .eq (.ix (.var 9) (.cst (.int 0))) (.cst (.str
  "number"))) (.cons (.exp (.mt .append (.var 3) (.cons (.var 9) .nil))) (.cons (.sub (.var 4) (.op .sub .f (.bi .len .f (.cons (.var 2) .nil)) (.cst (.int 1))) (.op .sub .f (.bi .len .f (.cons (.var 3) .nil)) (.cst (.int 1)))) .nil)) .nil) (.cons (.ite (.cmp .eq (.ix (.var 9) (.cst (.int 0))) (.cst (.str "letter"))) (.cons (.sub (.var 4) (.op .sub .f (.bi .len .f (.cons (.var 2) .nil)) (.cst (.int
  1))) (.ix (.var 9) (.cst (.int 1)))) .nil) .nil) (.cons (.ret (.call "_law_pruned" (.cons (.var 1) (.cons (.sl .f (.var 3) .non (.som (.op .add .f (.ix (.var 4) (.op .sub .f (.bi .len .f (.cons (.var 2) .nil)) (.cst (.int 1)))) (.cst (.int 1))))) .nil)))) .nil))))))))⟩
def c__law_point_text : Df := ⟨"_law_point_text", 1, 2, (.cons (.ret (.tm .join .f (.cst (.str " ")) (.lc .f [("_law_f", 1)] (.ex (.var 0)) (.nm 1) .non (.call "_law_fraction_text" (.cons (.var 1) .nil))))) .nil)⟩
def c__law_poly_text : Df := ⟨"_law_poly_text", 1, 4, (.cons (.asg (.nm 1) (.lst .t .nil)) (.cons (.for (.nm 2) (.ex (.bi .sorted .f (.cons (.var 0) .nil))) (.cons (.exp (.mt .append (.var 1) (.cons (.op .add .f (.op .add .f (.call "_law_fraction_text" (.cons (.ix (.var 0) (.var 2)) .nil)) (.cst (.str ":"))) (.tm .join .f (.cst (.str ",")) (.lc .f [("_law_power", 3)] (.ex (.var 2)) (.nm 3) .non
  (.bi .str .f (.cons (.var 3) .nil))))) .nil))) .nil)) (.cons (.ret (.tm .join .f (.cst (.str " ")) (.op .add .f (.var 1) (.op .mul .f (.lst .f (.cons (.cst (.str "0")) .nil)) (.bi .int .f (.cons (.cmp .eq (.bi .len .f (.cons (.var 1) .nil)) (.cst (.int 0))) .nil)))))) .nil)))⟩
def c__law_comes_to : Df := ⟨"_law_comes_to", 1, 5, (.cons (.asg (.nm 1) (.frz (.ddsp (.op .mul .f (.tup (.cons (.cst (.int 0)) .nil)) (.bi .len .f (.cons (.ix (.var 0) (.cst (.int 0))) .nil))) (.tup (.cons (.cst (.int 1)) (.cons (.cst (.int 1)) .nil)))))) (.cons (.asg (.nm 2) (.lst .t .nil)) (.cons (.for (.nm 3) (.ex (.ix (.var 0) (.cst (.int 1)))) (.cons (.ite (.cmp .eq (.ix (.var 3) (.cst (.int
  0))) (.cst (.str "over"))) (.cons (.asg (.nm 4) (.ix (.ix (.var 0) (.cst (.int 1))) (.ix (.var 3) (.cst (.int 1))))) (.cons (.exp (.mt .append (.var 2) (.cons (.ix (.var 2) (.ix (.var 4) (.op .add .f (.cst (.int 1)) (.bi .int .f (.cons (.cmp .eq (.ix (.var 4) (.cst (.int 1))) (.ix (.var 3) (.cst (.int 2)))) .nil))))) .nil))) .nil)) (.cons (.exp (.mt .append (.var 2) (.cons (.tup (.cons (.ix
  (.call "_law_pair" (.cons (.var 3) (.cons (.var 2) (.cons (.bi .len .f (.cons (.ix (.var 0) (.cst (.int 0))) .nil)) .nil)))) (.cst (.int 0))) (.cons (.var 1) .nil))) .nil))) .nil)) .nil)) (.cons (.ret (.ix (.ix (.frz (.var 2)) (.neg (.cst (.int 1)))) (.cst (.int 0)))) .nil))))⟩
def baseTab (f : String) : Option Df := match f with
  | "common" => some c_common
  | "fraction" => some c_fraction
  | "plus" => some c_plus
  | "less" => some c_less
  | "times" => some c_times
  | "over" => some c_over
  | "_law_box" => some c__law_box
  | "_law_take" => some c__law_take
  | "_law_fraction" => some c__law_fraction
  | "fraction_text" => some c_fraction_text
  | "poly_plus" => some c_poly_plus
  | "poly_less" => some c_poly_less
  | "powers_added" => some c_powers_added
  | "poly_times" => some c_poly_times
  | "_law_poly_told" => some c__law_poly_told
  | "_law_number" => some c__law_number
  | "_law_small" => some c__law_small
  | "_law_drawn_poly" => some c__law_drawn_poly
  | "degree" => some c_degree
  | "piece" => some c_piece
  | "choices" => some c_choices
  | "moved_letter" => some c_moved_letter
  | "moved" => some c_moved
  | "_law_poly_number" => some c__law_poly_number
  | "_law_poly_letter" => some c__law_poly_letter
  | "parted_by" => some c_parted_by
  | "is_number_below" => some c_is_number_below
  | "_law_names" => some c__law_names
  | "pruned" => some c_pruned
  | "products" => some c_products
  | "weight_of" => some c_weight_of
  | "weights" => some c_weights
  | "_law_weight" => some c__law_weight
  | "run" => some c_run
  | "polynomial_of" => some c_polynomial_of
  | "_law_pairs" => some c__law_pairs
  | "points_up_to" => some c_points_up_to
  | "good_point" => some c_good_point
  | "is_name" => some c_is_name
  | "is_value" => some c_is_value
  | "_law_fraction_text" => some c__law_fraction_text
  | "_law_text_names" => some c__law_text_names
  | "_law_known_word" => some c__law_known_word
  | "_law_line" => some c__law_line
  | "_law_steps" => some c__law_steps
  | "_law_last" => some c__law_last
  | "_law_line_text" => some c__law_line_text
  | "_law_steps_text" => some c__law_steps_text
  | "_law_text_rows" => some c__law_text_rows
  | "_law_is_name_word" => some c__law_is_name_word
  | "_law_number_of" => some c__law_number_of
  | "_law_lay" => some c__law_lay
  | "_law_rows_of" => some c__law_rows_of
  | "_law_go" => some c__law_go
  | "_law_draw_parts" => some c__law_draw_parts
  | "written_row" => some c_written_row
  | "_law_written" => some c__law_written
  | "products_to" => some c_products_to
  | "parted_row" => some c_parted_row
  | "power_row" => some c_power_row
  | "power_rows" => some c_power_rows
  | "_law_number_is" => some c__law_number_is
  | "_law_fraction_is" => some c__law_fraction_is
  | "_law_pointed" => some c__law_pointed
  | "_law_old" => some c__law_old
  | "letter_mark" => some c_letter_mark
  | "number_form" => some c_number_form
  | "scaled" => some c_scaled
  | "needed_rows" => some c_needed_rows
  | "_law_whole_row_is" => some c__law_whole_row_is
  | "_law_whole_is" => some c__law_whole_is
  | "is_great" => some c_is_great
  | "_law_form_number" => some c__law_form_number
  | "_law_reading" => some c__law_reading
  | "_law_new_form" => some c__law_new_form
  | "is_row" => some c_is_row
  | "node_degree" => some c_node_degree
  | "is_top" => some c_is_top
  | "_law_factor" => some c__law_factor
  | "_law_high" => some c__law_high
  | "degrees" => some c_degrees
  | "mixed" => some c_mixed
  | "net_polys" => some c_net_polys
  | "net_poly" => some c_net_poly
  | "named_anew" => some c_named_anew
  | "_law_good_fraction" => some c__law_good_fraction
  | "_law_below" => some c__law_below
  | "shares_of" => some c_shares_of
  | "share" => some c_share
  | "border" => some c_border
  | "_law_border" => some c__law_border
  | "_wall" => some c__wall
  | "linear_polys" => some c_linear_polys
  | "near_shares" => some c_near_shares
  | "plain_noughts" => some c_plain_noughts
  | "halvings" => some c_halvings
  | "sizes" => some c_sizes
  | "depth_told" => some c_depth_told
  | "rows_told" => some c_rows_told
  | "are_numbers" => some c_are_numbers
  | "entry_fits" => some c_entry_fits
  | "_law_multiple" => some c__law_multiple
  | "_law_web" => some c__law_web
  | "entry_poly" => some c_entry_poly
  | "widths" => some c_widths
  | "width" => some c_width
  | "_law_is_whole" => some c__law_is_whole
  | "columns_in" => some c_columns_in
  | "chosen_sum" => some c_chosen_sum
  | "signed_sum" => some c_signed_sum
  | "_law_table" => some c__law_table
  | "table_of" => some c_table_of
  | "dot_of" => some c_dot_of
  | "grid_points" => some c_grid_points
  | "as_point" => some c_as_point
  | "first_apart" => some c_first_apart
  | "parted" => some c_parted
  | "_law_polys" => some c__law_polys
  | "_law_nought_at" => some c__law_nought_at
  | "failing" => some c_failing
  | "wholes_of" => some c_wholes_of
  | "mixes_of" => some c_mixes_of
  | "is_small" => some c_is_small
  | "without" => some c_without
  | "pairs_of" => some c_pairs_of
  | "plan_of" => some c_plan_of
  | "_law_list_product" => some c__law_list_product
  | "_law_signs" => some c__law_signs
  | "_law_small_one" => some c__law_small_one
  | "_law_poly_of" => some c__law_poly_of
  | "pair_text" => some c_pair_text
  | "point_text" => some c_point_text
  | "poly_text" => some c_poly_text
  | "_law_kept" => some c__law_kept
  | "_law_poly_text" => some c__law_poly_text
  | _ => none
def tabOf (L : String → Option Df) (f : String) : Option Df := match baseTab f with
  | some d => some d
  | none => L f

end U

/-! Lw: how the code is gone through. -/
namespace Deep
open PySem L2
section
variable {F : FE} {σ : DSt} {h : DH} {Q : DQ} {E : XQ} {Z : DEnds}
theorem call_of {tab : String → Option Df} {k : Nat} {f : String} {ds : List D} (d : Df) (ht : tab f = some d) (hl : ds.length = d.np)
    (hb : evSs (callD tab k) d.body { nx := fun _ h' => Q .non h', rt := Q, ex := fun c fs _ h' => E c fs h' } (startD d.nl ds) h) : callD tab (k + 1) f ds h Q E := by
  simp only [callD, ht]
  exact ⟨hl, hb⟩
theorem ev_var {i : Nat} {d : D} (e : σ[i]? = some (some d)) : evE F (.var i) σ h Q E = Q d h := by simp only [evE, e]
theorem ev_v0 {d : D} {τ : DSt} : evE F (.var 0) (some d :: τ) h Q E = Q d h := (rfl)
theorem ev_vs {i : Nat} {x : Option D} {τ : DSt} : evE F (.var (i + 1)) (x :: τ) h Q E = evE F (.var i) τ h Q E := by
  simp only [evE, List.getElem?_cons_succ]
theorem ev_cst {d : D} : evE F (.cst d) σ h Q E = Q d h := (rfl)
theorem ev_glb {x : Str} {d : D} : evE F (.glb x d) σ h Q E = Q d h := (rfl)
theorem ev_typ {n : String} : evE F (.typ n) σ h Q E = Q (.ty n) h := (rfl)
theorem ev_op {o : Op} {m : LK} {a b : Ex} : evE F (.op o m a b) σ h Q E = evE F a σ h (fun x h1 => evE F b σ h1 (fun y h2 => opD o m x y h2 Q) E) E := (rfl)
theorem ev_neg {a : Ex} : evE F (.neg a) σ h Q E = evE F a σ h (fun x h1 => negD x h1 Q) E := (rfl)
theorem ev_cmp {c : Cp} {a b : Ex} : evE F (.cmp c a b) σ h Q E = evE F a σ h (fun x h1 => evE F b σ h1 (fun y h2 => cmpD c x y h2 fun r => Q (.bl r) h2) E) E := (rfl)
theorem ev_chn {c c' : Cp} {a b d : Ex} : evE F (.chn c c' a b d) σ h Q E = evE F a σ h (fun x h1 => evE F b σ h1 (fun y h2 => cmpD c x y h2 fun r => if r = true then evE F d σ h2 (fun z h3 => cmpD c' y z h3 fun r' => Q (.bl r') h3) E else Q (.bl false) h2) E) E := (rfl)
theorem ev_and {a : Ex} {es : Exs} : evE F (.and a es) σ h Q E = evE F a σ h (fun x h1 => evAnd F es x σ h1 Q E) E := (rfl)
theorem ev_or {a : Ex} {es : Exs} : evE F (.or a es) σ h Q E = evE F a σ h (fun x h1 => evOr F es x σ h1 Q E) E := (rfl)
theorem ev_not {a : Ex} : evE F (.not a) σ h Q E = evE F a σ h (fun x h1 => bD x fun r => Q (.bl (!r)) h1) E := (rfl)
theorem ev_ite {c a b : Ex} : evE F (.ite c a b) σ h Q E = evE F c σ h (fun x h1 => bD x fun r => if r = true then evE F a σ h1 Q E else evE F b σ h1 Q E) E := (rfl)
theorem ev_tup {es : Exs} : evE F (.tup es) σ h Q E = evA F es σ h (fun ds h1 => ds.length ≤ sizeLine ∧ Q (.tup ds) h1) E := (rfl)
theorem ev_lst {m : LK} {es : Exs} : evE F (.lst m es) σ h Q E = evA F es σ h (fun ds h1 => ds.length ≤ sizeLine ∧ newL m ds h1 Q) E := (rfl)
theorem ev_ix {a b : Ex} : evE F (.ix a b) σ h Q E = evE F a σ h (fun x h1 => evE F b σ h1 (fun y h2 => ixD x y h2 Q) E) E := (rfl)
theorem ev_sl {m : LK} {a : Ex} {lo hi : OE} : evE F (.sl m a lo hi) σ h Q E = evE F a σ h (fun x h1 => evO F lo σ h1 (fun l h2 => evO F hi σ h2 (fun u h3 => slD m x l u h3 Q) E) E) E := (rfl)
theorem ev_call {f : String} {es : Exs} : evE F (.call f es) σ h Q E = evA F es σ h (fun ds h1 => F f ds h1 Q E) E := (rfl)
theorem ev_bi {f : Bi} {m : LK} {es : Exs} : evE F (.bi f m es) σ h Q E = evA F es σ h (fun ds h1 => biD f m ds h1 Q) E := (rfl)
theorem ev_mt {f : Mt} {o : Ex} {es : Exs} : evE F (.mt f o es) σ h Q E = evE F o σ h (fun x h1 => lstAt h1 x ∧ evA F es σ h1 (fun ds h2 => mtD f x ds h2 Q) E) E := (rfl)
theorem ev_tm {f : Tm} {m : LK} {o e : Ex} : evE F (.tm f m o e) σ h Q E = evE F o σ h (fun x h1 => isStrD x ∧ evE F e σ h1 (fun y h2 => tmD f m x y h2 Q) E) E := (rfl)
theorem isStr_s {z : Str} : isStrD (.str z) = True := (rfl)
theorem ev_frz {e : Ex} : evE F (.frz e) σ h Q E = evE F e σ h (fun x h1 => frzD x h1 Q) E := (rfl)
theorem ev_lc {m : LK} {own : List (Str × Nat)} {it : Iw} {tg : Tn} {c : OE} {e : Ex} : evE F (.lc m own it tg c e) σ h Q E = evI F it σ h (fun xs ok h1 => lcD (tnD tg) ok (evC F c) (evE F e) (wipeD σ (own.map (·.2))) (fun acc h2 => newL m acc h2 Q) xs [] h1) E := (rfl)
theorem ea_nil {R : List D → DH → Prop} : evA F .nil σ h R E = R [] h := (rfl)
theorem ea_cons {e : Ex} {es : Exs} {R : List D → DH → Prop} : evA F (.cons e es) σ h R E = evE F e σ h (fun x h1 => evA F es σ h1 (fun xs h2 => R (x :: xs) h2) E) E := (rfl)
theorem ean_nil {x : D} : evAnd F .nil x σ h Q E = Q x h := (rfl)
theorem ean_cons {b : Bool} {e : Ex} {es : Exs} : evAnd F (.cons e es) (.bl b) σ h Q E = if b = true then evE F e σ h (fun y h1 => evAnd F es y σ h1 Q E) E else Q (.bl false) h := (rfl)
theorem eor_nil {x : D} : evOr F .nil x σ h Q E = Q x h := (rfl)
theorem eor_cons {b : Bool} {e : Ex} {es : Exs} : evOr F (.cons e es) (.bl b) σ h Q E = if b = true then Q (.bl true) h else evE F e σ h (fun y h1 => evOr F es y σ h1 Q E) E := (rfl)
theorem eo_non {R : Option Int → DH → Prop} : evO F .non σ h R E = R none h := (rfl)
theorem eo_som {e : Ex} {R : Option Int → DH → Prop} : evO F (.som e) σ h R E = evE F e σ h (fun x h1 => match x with
    | .int i => R (some i) h1
    | _ => False) E := (rfl)
theorem ec_non {R : Bool → DH → Prop} : evC F .non σ h R E = R true h := (rfl)
theorem ec_som {e : Ex} {R : Bool → DH → Prop} : evC F (.som e) σ h R E = evE F e σ h (fun x h1 => bD x fun r => R r h1) E := (rfl)
theorem ei_ex {e : Ex} {R : List D → (DH → Prop) → DH → Prop} : evI F (.ex e) σ h R E = evE F e σ h (fun x h1 => walkD x h1 fun xs ok => R xs ok h1) E := (rfl)
theorem ei_rng {es : Exs} {R : List D → (DH → Prop) → DH → Prop} : evI F (.rng es) σ h R E = evA F es σ h (fun ds h1 => rngD ds h1 R) E := (rfl)
theorem ei_enm {e : Ex} {R : List D → (DH → Prop) → DH → Prop} : evI F (.enm e) σ h R E = evE F e σ h (fun x h1 => walkL x h1 fun xs ok => R (enmL 0 xs) ok h1) E := (rfl)
theorem ei_zip {a b : Ex} {R : List D → (DH → Prop) → DH → Prop} : evI F (.zip a b) σ h R E = evE F a σ h (fun x h1 => evE F b σ h1 (fun y h2 => zipW x y h2 fun xs ok => R xs ok h2) E) E := (rfl)
theorem ei_rev {e : Ex} {R : List D → (DH → Prop) → DH → Prop} : evI F (.rev e) σ h R E = evE F e σ h (fun x h1 => revW x h1 fun xs ok => R xs ok h1) E := (rfl)
/-! statements -/
theorem es_nil : evSs F .nil Z σ h = Z.nx σ h := (rfl)
theorem es_cons {s : Sm} {r : Sms} : evSs F (.cons s r) Z σ h = evS F s { Z with nx := evSs F r Z } σ h := (rfl)
theorem es_asg {t : Tn} {e : Ex} : evS F (.asg t e) Z σ h = evE F e σ h (fun x h1 => tnD t x σ fun σ' => Z.nx σ' h1) fun c fs h' => Z.ex c fs σ h' := (rfl)
theorem es_par {i j : Nat} {a b : Ex} : evS F (.par i j a b) Z σ h = evE F a σ h (fun x h1 => evE F b σ h1 (fun y h2 => Z.nx ((σ.set i (some x)).set j (some y)) h2) fun c fs h' => Z.ex c fs σ h') fun c fs h' => Z.ex c fs σ h' := (rfl)
theorem es_sub {o i e : Ex} : evS F (.sub o i e) Z σ h = evE F e σ h (fun v h1 => evE F o σ h1 (fun x h2 => evE F i σ h2 (fun y h3 => setD x y v h3 fun h4 => Z.nx σ h4) fun c fs h' => Z.ex c fs σ h') fun c fs h' => Z.ex c fs σ h') fun c fs h' => Z.ex c fs σ h' := (rfl)
theorem es_exp {e : Ex} : evS F (.exp e) Z σ h = evE F e σ h (fun _ h1 => Z.nx σ h1) fun c fs h' => Z.ex c fs σ h' := (rfl)
theorem es_ret {e : Ex} : evS F (.ret e) Z σ h = evE F e σ h Z.rt fun c fs h' => Z.ex c fs σ h' := (rfl)
theorem es_retN : evS F .retN Z σ h = Z.rt .non h := (rfl)
theorem es_ite {c : Ex} {a b : Sms} : evS F (.ite c a b) Z σ h = evE F c σ h (fun x h1 => bD x fun r => if r = true then evSs F a Z σ h1 else evSs F b Z σ h1) fun c fs h' => Z.ex c fs σ h' := (rfl)
theorem es_for {t : Tn} {it : Iw} {b : Sms} : evS F (.for t it b) Z σ h = evI F it σ h (fun xs ok h1 => forD (tnD t) ok (evSs F b) Z xs σ h1) fun c fs h' => Z.ex c fs σ h' := (rfl)
theorem es_brk : evS F .brk Z σ h = Z.bk σ h := (rfl)
theorem es_cnt : evS F .cnt Z σ h = Z.ct σ h := (rfl)
theorem es_pas : evS F .pas Z σ h = Z.nx σ h := (rfl)
theorem tn_nm {i : Nat} {d : D} {R : DSt → Prop} : tnD (.nm i) d σ R = R (σ.set i (some d)) := (rfl)
theorem tn_tp {ts : Tns} {xs : List D} {R : DSt → Prop} : tnD (.tp ts) (.tup xs) σ R = (xs.length = tnsLen ts ∧ tnsD ts xs σ R) := (rfl)
theorem tns_nil {R : DSt → Prop} : tnsD .nil [] σ R = R σ := (rfl)
theorem tns_cons {t : Tn} {ts : Tns} {d : D} {ds : List D} {R : DSt → Prop} : tnsD (.cons t ts) (d :: ds) σ R = tnD t d σ fun σ' => tnsD ts ds σ' R := (rfl)
/-! values -/
theorem bD_bl {b : Bool} {R : Bool → Prop} : bD (.bl b) R = R b := (rfl)
theorem op_add_i {m : LK} {i j : Int} : opD .add m (.int i) (.int j) h Q = Q (.int (i + j)) h := (rfl)
theorem op_add_s {m : LK} {i j : Str} : opD .add m (.str i) (.str j) h Q = (i.length + j.length ≤ sizeLine ∧ Q (.str (i ++ j)) h) := (rfl)
theorem op_add_t {m : LK} {i j : List D} : opD .add m (.tup i) (.tup j) h Q = (i.length + j.length ≤ sizeLine ∧ Q (.tup (i ++ j)) h) := (rfl)
theorem op_add_l {m : LK} {i j : List D} : opD .add m (.lst i) (.lst j) h Q = (i.length + j.length ≤ sizeLine ∧ newL m (i ++ j) h Q) := (rfl)
theorem op_sub_i {m : LK} {i j : Int} : opD .sub m (.int i) (.int j) h Q = Q (.int (i - j)) h := (rfl)
theorem op_mul_i {m : LK} {i j : Int} : opD .mul m (.int i) (.int j) h Q = (MulOk i j ∧ Q (.int (i * j)) h) := (rfl)
theorem op_mul_s {m : LK} {i : Str} {j : Int} : opD .mul m (.str i) (.int j) h Q = (RepOk i j ∧ Q (.str (repS i j)) h) := (rfl)
theorem op_mul_l {m : LK} {xs : List D} {j : Int} : opD .mul m (.lst xs) (.int j) h Q = ((-(2 ^ 63) ≤ j ∧ j < 2 ^ 63 ∧ xs.length * j.toNat ≤ sizeLine) ∧ newL m (List.replicate j.toNat xs).flatten h Q) := (rfl)
theorem op_fdiv_i {m : LK} {i j : Int} : opD .fdiv m (.int i) (.int j) h Q = (FdOk i j ∧ Q (.int (i.fdiv j)) h) := (rfl)
theorem op_mod_i {m : LK} {i j : Int} : opD .mod m (.int i) (.int j) h Q = (j ≠ 0 ∧ Q (.int (i.fmod j)) h) := (rfl)
theorem op_pow_i {m : LK} {i j : Int} : opD .pow m (.int i) (.int j) h Q = (CPow i j ∧ Q (.int (i ^ j.toNat)) h) := (rfl)
theorem neg_i {i : Int} : negD (.int i) h Q = Q (.int (-i)) h := (rfl)
theorem cmp_eq {x y : D} {R : Bool → Prop} : cmpD .eq x y h R = eqD x y h R := (rfl)
theorem cmp_ne {x y : D} {R : Bool → Prop} : cmpD .ne x y h R = eqD x y h fun b => R (!b) := (rfl)
theorem eq_i {i j : Int} {R : Bool → Prop} : eqD (.int i) (.int j) h R = R (decide (i = j)) := (rfl)
theorem eq_s {i j : Str} {R : Bool → Prop} : eqD (.str i) (.str j) h R = R (decide (i = j)) := (rfl)
theorem eq_b {i j : Bool} {R : Bool → Prop} : eqD (.bl i) (.bl j) h R = R (decide (i = j)) := (rfl)
theorem eq_d {x y : D} {p q : PyData} {R : Bool → Prop} (hs : scalD x y = false) (e1 : topP h x = some p) (e2 : topP h y = some q) : eqD x y h R = (SeqAt.shaped p = true ∧ SeqAt.shaped q = true ∧ R (PyData.eqv p q)) := by
  cases x <;> cases y <;> first
    | (simp [scalD] at hs; done)
    | (simp only [eqD, e1, e2]; done)
    | (have z := e1.symm.trans e2; cases z; simp only [eqD, e1])
theorem cmp_lt {i j : Int} {R : Bool → Prop} : cmpD .lt (.int i) (.int j) h R = R (decide (i < j)) := (rfl)
theorem cmp_le {i j : Int} {R : Bool → Prop} : cmpD .le (.int i) (.int j) h R = R (decide (i ≤ j)) := (rfl)
theorem cmp_gt {i j : Int} {R : Bool → Prop} : cmpD .gt (.int i) (.int j) h R = R (decide (j < i)) := (rfl)
theorem cmp_ge {i j : Int} {R : Bool → Prop} : cmpD .ge (.int i) (.int j) h R = R (decide (j ≤ i)) := (rfl)
def atQ (o : Option D) (h : DH) (Q : DQ) : Prop := match o with
  | some v => Q v h
  | none => False
theorem at_some {v : D} : atQ (some v) h Q = Q v h := (rfl)
theorem at_of {o : Option D} {v : D} (e : o = some v) (q : Q v h) : atQ o h Q := by rw [e]; exact q
theorem ix_tup {xs : List D} {i : Int} : ixD (.tup xs) (.int i) h Q = atQ (atI xs i) h Q := (rfl)
theorem ix_lst {xs : List D} {i : Int} : ixD (.lst xs) (.int i) h Q = atQ (atI xs i) h Q := (rfl)
theorem ix_box {a : Addr} {i : Int} : ixD (.box a) (.int i) h Q = boxD i h Q := (rfl)
theorem ix_scr {ns : List Int} {i : Int} : ixD (.scr ns) (.int i) h Q = atQ (atI (ns.map D.int) i) h Q := (rfl)
theorem ix_ref {a : Addr} {xs : List D} {i : Int} (e : h a = some (.lst xs)) : ixD (.ref a) (.int i) h Q = atQ (atI xs i) h Q := by
  simp only [ixD, asS, asR, asL, e]
  rfl
/-! dicts -/
theorem ev_mxd {e d : Ex} : evE F (.mxd e d) σ h Q E = evE F e σ h (fun x h1 => evE F d σ h1 (fun z h2 => mxdD x z h2 Q) E) E := (rfl)
theorem ev_lrng {m : LK} {a : Ex} : evE F (.lrng m a) σ h Q E = evE F a σ h (fun x h1 => lrngD m x h1 Q) E := (rfl)
theorem lrng_i {m : LK} {j : Int} : lrngD m (.int j) h Q = ((-(2 ^ 62) ≤ j ∧ j < 2 ^ 62 ∧ j.toNat ≤ 2 ^ 24) ∧ newL m (rngL 0 j.toNat) h Q) := (rfl)
theorem ev_dnew {t : Bool} : evE F (.dnew t) σ h Q E = dnewD t h Q := (rfl)
theorem ev_dget {o k d : Ex} : evE F (.dget o k d) σ h Q E = evE F o σ h (fun x h1 => isDic h1 x ∧ evE F k σ h1 (fun y h2 => evE F d σ h2 (fun z h3 => dget2D x y z h3 Q) E) E) E := (rfl)
theorem dnew_t : dnewD true h Q = ∀ p, h p = none → Q (.ref p) (updD h p (.dT [])) := (rfl)
theorem dnew_k : dnewD false h Q = ∀ p, h p = none → Q (.ref p) (updD h p (.dK [])) := (rfl)
def fzQ (o : Option (Option D)) (f : D → Prop) : Prop := match o with
  | some (some d) => f d
  | _ => False
theorem fz_some {d : D} {f : D → Prop} : fzQ (some (some d)) f = f d := (rfl)
theorem es_frz {i : Nat} {r : Sms} : evSs F (.frz i r) Z σ h = fzQ σ[i]? fun d => frzD d h fun d' h' => evSs F r Z (σ.set i (some d')) h' := (rfl)
theorem isDic_t {a : Addr} {kvs : List (NKey × D)} (e : h a = some (.dT kvs)) : isDic h (.ref a) := by simp only [isDic, asD, e, Option.isSome_some]
theorem isDic_k {a : Addr} {kvs : List (Key × D)} (e : h a = some (.dK kvs)) : isDic h (.ref a) := by simp only [isDic, asD, e, Option.isSome_some]
theorem dget2_t {a : Addr} {kvs : List (NKey × D)} {y z : D} {k : NKey} (e : h a = some (.dT kvs)) (ek : dKey y = some k) (ok : keyOk k) (q : Q ((valK kvs k).getD z) h) : dget2D (.ref a) y z h Q := by
  simp only [dget2D, asD, e, lookD, ek]
  exact ⟨ok, q⟩
theorem dget2_k {a : Addr} {kvs : List (Key × D)} {y z : D} {k : Key} (e : h a = some (.dK kvs)) (ek : kKey y = some k) (q : Q ((valK kvs k).getD z) h) : dget2D (.ref a) y z h Q := by
  simp only [dget2D, asD, e, lookD, ek]
  exact q
theorem dset_t {a : Addr} {kvs : List (NKey × D)} {y v : D} {k : NKey} {R : DH → Prop} (e : h a = some (.dT kvs)) (ek : dKey y = some k) (ok : keyOk k) (hz : kvs.length < sizeLine) (q : R (updD h a (.dT (putD kvs k v)))) : setD (.ref a) y v h R := by
  simp only [setD, e, ek]
  exact ⟨ok, hz, q⟩
theorem dset_k {a : Addr} {kvs : List (Key × D)} {y v : D} {k : Key} {R : DH → Prop} (e : h a = some (.dK kvs)) (ek : kKey y = some k) (hz : kvs.length < sizeLine) (q : R (updD h a (.dK (putD kvs k v)))) : setD (.ref a) y v h R := by
  simp only [setD, e, ek]
  exact ⟨hz, q⟩
/-- a frozen dict -/
def dtD (kvs : List (NKey × D)) : D := .dt (kvs.map fun x => keyD x.1) (kvs.map (·.2))
def dkD (kvs : List (Key × D)) : D := .dk (kvs.map (·.1)) (kvs.map (·.2))
theorem zip_parts {β γ : Type} : ∀ xs : List (β × γ), (xs.map fun x => x.1).zip (xs.map fun x => x.2) = xs
  | [] => rfl
  | (x, y) :: xs => by
    rw [List.map_cons, List.map_cons, List.zip_cons_cons, zip_parts xs]
theorem asD_dt {kvs : List (NKey × D)} : asD h (dtD kvs) = some (.t kvs) := by
  have e3 : (kvs.map fun x => keyD x.1) = (kvs.map (·.1)).map keyD := by rw [List.map_map]; rfl
  have e4 : dKeys (kvs.map fun x => keyD x.1) = some (kvs.map (·.1)) := by rw [e3, ← keyDs_map, dKeys_keyDs]
  simp only [dtD, asD, e4, zip_parts]
theorem asD_dk {kvs : List (Key × D)} : asD h (dkD kvs) = some (.k kvs) := by
  simp only [dkD, asD, zip_parts]
theorem frz_rt {p : Addr} {kvs : List (NKey × D)} (e : h p = some (.dT kvs)) : frzD (.ref p) h Q = Q (dtD kvs) (delD h p) := by
  simp only [frzD, e]
  rfl
theorem frz_rk {p : Addr} {kvs : List (Key × D)} (e : h p = some (.dK kvs)) : frzD (.ref p) h Q = Q (dkD kvs) (delD h p) := by
  simp only [frzD, e]
  rfl
theorem walk_dt {kvs : List (NKey × D)} {R : List D → (DH → Prop) → Prop} : walkD (dtD kvs) h R = R (kvs.map fun x => keyD x.1) fun _ => True := (rfl)
theorem walk_dk {kvs : List (Key × D)} {R : List D → (DH → Prop) → Prop} : walkD (dkD kvs) h R = R ((kvs.map (·.1)).map kD) fun _ => True := (rfl)
theorem dget_dt {kvs : List (NKey × D)} {y v : D} {k : NKey} (ek : dKey y = some k) (ok : keyOk k) (ev : valK kvs k = some v) (q : Q v h) : dgetD (dtD kvs) y h Q := by
  simp only [dgetD, asD_dt, lookD, ek, ev]
  exact ⟨ok, q⟩
theorem dget_rt {a : Addr} {kvs : List (NKey × D)} {y v : D} {k : NKey} (e : h a = some (.dT kvs)) (ek : dKey y = some k) (ok : keyOk k) (ev : valK kvs k = some v) (q : Q v h) : dgetD (.ref a) y h Q := by
  simp only [dgetD, asD, e, lookD, ek, ev]
  exact ⟨ok, q⟩
theorem dget_rk {a : Addr} {kvs : List (Key × D)} {y v : D} {k : Key} (e : h a = some (.dK kvs)) (ek : kKey y = some k) (ev : valK kvs k = some v) (q : Q v h) : dgetD (.ref a) y h Q := by
  simp only [dgetD, asD, e, lookD, ek, ev]
  exact q
theorem ix_rd {a : Addr} {y : D} (e : asL h (.ref a) = none) : ixD (.ref a) y h Q = dgetD (.ref a) y h Q := by
  cases y <;> first
    | (simp only [ixD, asS, asR, e]; done)
    | rfl
theorem ix_dt {kvs : List (NKey × D)} {y : D} : ixD (dtD kvs) y h Q = dgetD (dtD kvs) y h Q := by
  cases y <;> first
    | rfl
    | (simp only [ixD, dtD, asS, asR, asL]; done)
theorem newL_f {zs : List D} : newL .f zs h Q = Q (.lst zs) h := (rfl)
theorem newL_t {zs : List D} : newL .t zs h Q = ∀ p, h p = none → Q (.ref p) (updD h p (.lst zs)) := (rfl)
theorem newL_b {c s : Int} : newL .b [.int c, .int s] h Q = (BoxOk c s ∧ ∀ p, Q (.box p) h) := (rfl)
theorem len_str {m : LK} {z : Str} : biD .len m [.str z] h Q = (z.length ≤ sizeLine ∧ Q (.int z.length) h) := (rfl)
theorem len_tup {m : LK} {xs : List D} : biD .len m [.tup xs] h Q = Q (.int xs.length) h := (rfl)
theorem len_lst {m : LK} {xs : List D} : biD .len m [.lst xs] h Q = Q (.int xs.length) h := (rfl)
theorem len_scr {m : LK} {ns : List Int} : biD .len m [.scr ns] h Q = Q (.int (ns.map D.int).length) h := (rfl)
theorem len_ref {m : LK} {a : Addr} {xs : List D} (e : h a = some (.lst xs)) : biD .len m [.ref a] h Q = Q (.int xs.length) h := by simp only [biD, asS, asR, asL, e]
theorem bi_abs {m : LK} {i : Int} : biD .abs m [.int i] h Q = Q (.int (if i < 0 then -i else i)) h := (rfl)
theorem bi_max2 {m : LK} {i j : Int} : biD .max2 m [.int i, .int j] h Q = Q (.int (if j > i then j else i)) h := (rfl)
theorem bi_min2 {m : LK} {i j : Int} : biD .min2 m [.int i, .int j] h Q = Q (.int (if j < i then j else i)) h := (rfl)
theorem bi_int_i {m : LK} {i : Int} : biD .int m [.int i] h Q = Q (.int i) h := (rfl)
theorem bi_int_b {m : LK} {k : Bool} : biD .int m [.bl k] h Q = Q (.int (if k then 1 else 0)) h := (rfl)
theorem bi_isinst {m : LK} {x : D} {n : String} {b : Bool} (e : kitQ h x n = some b) : biD .isinst m [x, .ty n] h Q = Q (.bl b) h := by simp only [biD, e]
theorem bi_tup_t {m : LK} {xs : List D} : biD .tup m [.tup xs] h Q = Q (.tup xs) h := (rfl)
theorem bi_tup_l {m : LK} {xs : List D} : biD .tup m [.lst xs] h Q = Q (.tup xs) h := (rfl)
theorem bi_tup_r {m : LK} {a : Addr} {xs : List D} (e : h a = some (.lst xs)) : biD .tup m [.ref a] h Q = Q (.tup xs) h := by simp only [biD, asL, e]
theorem strsD_map : ∀ ys : List Str, strsD (ys.map D.str) = some ys
  | [] => rfl
  | y :: ys => by
    rw [List.map_cons]
    simp only [strsD, strsD_map ys]
    rfl
def joinQ (a : Str) (ys : List Str) (h : DH) (Q : DQ) : Prop := (ys.map (·.length)).sum + ys.length * a.length ≤ 16777216 ∧ Q (.str (Txt.join a ys)) h
theorem tm_join {m : LK} {a : Str} {y : D} {ds : List D} {ys : List Str} (e : asS h y = some ds) (e2 : ds = ys.map D.str) : tmD .join m (.str a) y h Q = joinQ a ys h Q := by
  subst e2
  simp only [tmD, e, strsD_map]
  rfl
theorem bi_repr {m : LK} {x : D} {p : PyData} (e : topP h x = some p) : biD .repr m [x] h Q = (ShowOk p ∧ Q (.str p.shown) h) := by simp only [biD, e]
theorem set_box {a : Addr} {k j : Int} {R : DH → Prop} : setD (.box a) (.int k) (.int j) h R = (((k = 0 ∧ 0 ≤ j) ∨ (k = 1 ∧ 1 ≤ j ∧ j ≤ 2147483629)) ∧ R h) := (rfl)
theorem walk_tup {xs : List D} {R : List D → (DH → Prop) → Prop} : walkD (.tup xs) h R = R xs fun _ => True := (rfl)
theorem walk_lst {xs : List D} {R : List D → (DH → Prop) → Prop} : walkD (.lst xs) h R = R xs fun _ => True := (rfl)
theorem walk_str {z : Str} {R : List D → (DH → Prop) → Prop} : walkD (.str z) h R = R (strL z) fun _ => True := (rfl)
theorem walk_ref {a : Addr} {xs : List D} {R : List D → (DH → Prop) → Prop} (e : h a = some (.lst xs)) : walkD (.ref a) h R = R xs fun h' => h' a = some (.lst xs) := by simp only [walkD, e]
theorem rng_1 {j : Int} {R : List D → (DH → Prop) → DH → Prop} : rngD [.int j] h R = (-(2 ^ 62) ≤ j ∧ j < 2 ^ 62 ∧ R (rngL 0 j.toNat) (fun _ => True) h) := (rfl)
theorem rng_2 {i j : Int} {R : List D → (DH → Prop) → DH → Prop} : rngD [.int i, .int j] h R = ((-(2 ^ 62) ≤ i ∧ i < 2 ^ 62 ∧ -(2 ^ 62) ≤ j ∧ j < 2 ^ 62) ∧ R (rngL i (j - i).toNat) (fun _ => True) h) := (rfl)
theorem sl_tup {m : LK} {xs : List D} {lo hi : Option Int} : slD m (.tup xs) lo hi h Q = Q (.tup ((xs.drop (HT.sIx xs.length 0 lo)).take (HT.sIx xs.length xs.length hi - HT.sIx xs.length 0 lo))) h := (rfl)
theorem sl_lst {m : LK} {xs : List D} {lo hi : Option Int} : slD m (.lst xs) lo hi h Q = newL m ((xs.drop (HT.sIx xs.length 0 lo)).take (HT.sIx xs.length xs.length hi - HT.sIx xs.length 0 lo)) h Q := (rfl)
theorem sl_scr {m : LK} {ns : List Int} {lo hi : Option Int} : slD m (.scr ns) lo hi h Q = newL m (((ns.map D.int).drop (HT.sIx (ns.map D.int).length 0 lo)).take (HT.sIx (ns.map D.int).length (ns.map D.int).length hi - HT.sIx (ns.map D.int).length 0 lo)) h Q := (rfl)
/-! loops -/
theorem lc_nil {g : D → DSt → (DSt → Prop) → Prop} {ok : DH → Prop} {c : DT} {e : DE} {R : List D → DH → Prop} {acc : List D} : lcD g ok c e σ R [] acc h = (ok h ∧ R acc h) := (rfl)
theorem lc_cons {g : D → DSt → (DSt → Prop) → Prop} {ok : DH → Prop} {c : DT} {e : DE} {R : List D → DH → Prop} {x : D} {xs acc : List D} : lcD g ok c e σ R (x :: xs) acc h = (ok h ∧ g x σ fun σ' => c σ' h (fun b h1 => if b = true then e σ' h1 (fun y h2 => acc.length < sizeLine ∧ lcD g ok c e σ R xs (acc ++ [y]) h2) (fun _ _ _ => False) else lcD g ok c e σ R xs acc h1) (fun _ _ _ => False)) := (rfl)
theorem for_nil {g : D → DSt → (DSt → Prop) → Prop} {ok : DH → Prop} {b : DS} : forD g ok b Z [] σ h = (ok h ∧ Z.nx σ h) := (rfl)
theorem for_cons {g : D → DSt → (DSt → Prop) → Prop} {ok : DH → Prop} {b : DS} {x : D} {xs : List D} : forD g ok b Z (x :: xs) σ h = (ok h ∧ g x σ fun σ' => b { Z with nx := forD g ok b Z xs, ct := forD g ok b Z xs, bk := Z.nx } σ' h) := (rfl)
theorem wipe_nil : wipeD σ [] = σ := (rfl)
theorem wipe_cons {v : Nat} {vs : List Nat} : wipeD σ (v :: vs) = (wipeD σ vs).set v none := (rfl)
theorem isi_of {h : DH} {x : D} {a n : String} {b : Bool} (e : tyH h x = some a) (k : kitB a n = some b) : kitQ h x n = some b := by simp only [kitQ, e, k]
theorem bi_isi {m : LK} {x : D} {n : String} : biD .isinst m [x, .ty n] h Q = (match kitQ h x n with
  | some b => Q (.bl b) h
  | none => False) := (rfl)
theorem kit_tup {xs : List D} {n : String} : kitQ h (.tup xs) n = kitB "tuple" n := (rfl)
theorem kit_int {i : Int} {n : String} : kitQ h (.int i) n = kitB "int" n := (rfl)
theorem kit_str {i : Str} {n : String} : kitQ h (.str i) n = kitB "str" n := (rfl)
theorem kit_bl {i : Bool} {n : String} : kitQ h (.bl i) n = kitB "bool" n := (rfl)
theorem kit_non {n : String} : kitQ h .non n = kitB "NoneType" n := (rfl)
theorem kit_lst {xs : List D} {n : String} : kitQ h (.lst xs) n = kitB "list" n := (rfl)
theorem kb_tt : kitB "tuple" "tuple" = some true := by decide +kernel
theorem kb_ii : kitB "int" "int" = some true := by decide +kernel
theorem kb_ib : kitB "int" "bool" = some false := by decide +kernel
theorem kb_ll : kitB "list" "list" = some true := by decide +kernel
theorem kb_it : kitB "int" "tuple" = some false := by decide +kernel
theorem kb_lt : kitB "list" "tuple" = some false := by decide +kernel
theorem kb_tl : kitB "tuple" "list" = some false := by decide +kernel
theorem kb_ss : kitB "str" "str" = some true := by decide +kernel
theorem whl_by {c : Ex} {b : Sms} (P : Nat → DSt → DH → Prop) (m : Nat) (h0 : P m σ h) (hs : ∀ m σ h, P m σ h → ∀ N : DSt → DH → Prop, (∀ m' σ' h', m' < m → P m' σ' h' → N σ' h') → evE F c σ h (fun x h1 => bD x fun r =>
      if r = true then evSs F b { Z with nx := N, ct := N, bk := Z.nx } σ h1 else Z.nx σ h1) fun c fs h' => Z.ex c fs σ h') : evS F (.whl c b) Z σ h :=
  ⟨P, ⟨m, h0⟩, fun m σ h p => hs m σ h p _ fun m' _ _ lt p' => ⟨m', lt, p'⟩⟩
theorem forD_by {g : D → DSt → (DSt → Prop) → Prop} {ok : DH → Prop} {b : DS} (P : List D → DSt → DH → Prop) (hs : ∀ x r σ h, P (x :: r) σ h → ∀ N : DSt → DH → Prop, (∀ σ' h', P r σ' h' → N σ' h') → ok h ∧ g x σ fun σ' => b { Z with nx := N, ct := N, bk := Z.nx } σ' h)
    (he : ∀ σ h, P [] σ h → ok h ∧ Z.nx σ h) : ∀ (xs : List D) (σ : DSt) (h : DH), P xs σ h → forD g ok b Z xs σ h
  | [], σ, h, p => he σ h p
  | x :: r, σ, h, p => hs x r σ h p _ fun σ' h' p' => forD_by P hs he r σ' h' p'
/-- a comprehension whose turns change nothing -/
theorem lcD_pure {g : D → DSt → (DSt → Prop) → Prop} {ok : DH → Prop} {c : DT} {e : DE} {R : List D → DH → Prop} (f : D → Option D) (hk : ok h)
    : ∀ (xs acc : List D), (∀ x ∈ xs, ∀ (K1 : D → DH → Prop) (K0 : DH → Prop), (match f x with
        | some y => K1 y h
        | none => K0 h) → g x σ fun σ' => c σ' h (fun b h1 => if b = true then e σ' h1 K1 (fun _ _ _ => False) else K0 h1) (fun _ _ _ => False)) →
      acc.length + xs.length ≤ sizeLine → R (acc ++ xs.filterMap f) h → lcD g ok c e σ R xs acc h
  | [], acc, _, _, r => ⟨hk, by simpa using r⟩
  | x :: xs, acc, hs, hl, r => by
    refine ⟨hk, hs x (List.mem_cons_self ..) _ _ ?_⟩
    rw [List.length_cons] at hl
    cases q : f x with
    | some y =>
      show acc.length < sizeLine ∧ lcD g ok c e σ R xs (acc ++ [y]) h
      refine ⟨by omega, lcD_pure f hk xs (acc ++ [y]) (fun z hz => hs z (List.mem_cons_of_mem _ hz)) (by rw [List.length_append]; show acc.length + 1 + xs.length ≤ _; omega) ?_⟩
      rw [List.append_assoc]
      simpa [q] using r
    | none =>
      show lcD g ok c e σ R xs acc h
      exact lcD_pure f hk xs acc (fun z hz => hs z (List.mem_cons_of_mem _ hz)) (by omega) (by simpa [q] using r)
/-- a comprehension by what stands between its turns -/
theorem lcD_by {g : D → DSt → (DSt → Prop) → Prop} {ok : DH → Prop} {c : DT} {e : DE} {R : List D → DH → Prop} (P : List D → List D → DH → Prop) (hz : ∀ x r acc h, P (x :: r) acc h → acc.length < sizeLine)
    (hs : ∀ x r acc h, P (x :: r) acc h → ∀ (N1 : D → DH → Prop) (N0 : DH → Prop), (∀ y h', P r (acc ++ [y]) h' → N1 y h') → (∀ h', P r acc h' → N0 h') → ok h ∧ g x σ fun σ' => c σ' h (fun b h1 => if b = true then e σ' h1 N1 (fun _ _ _ => False) else N0 h1) (fun _ _ _ => False))
    (he : ∀ acc h, P [] acc h → ok h ∧ R acc h) : ∀ (xs acc : List D) (h : DH), P xs acc h → lcD g ok c e σ R xs acc h
  | [], acc, h, p => he acc h p
  | x :: xs, acc, h, p => hs x xs acc h p _ _ (fun y h' p' => ⟨hz x xs acc h p, lcD_by P hz hs he xs (acc ++ [y]) h' p'⟩) fun h' p' => lcD_by P hz hs he xs acc h' p'
theorem rngL_len (lo : Int) : ∀ n : Nat, (rngL lo n).length = n
  | 0 => rfl
  | n + 1 => by
    show (rngL (lo + 1) n).length + 1 = n + 1
    rw [rngL_len]
theorem rngL_mem (lo : Nat) : ∀ (n : Nat) (x : D), x ∈ rngL (lo : Int) n → ∃ i : Nat, x = .int (i : Int) ∧ lo ≤ i ∧ i < lo + n
  | 0, x, h => by simp [rngL] at h
  | n + 1, x, h => by
    simp only [rngL, List.mem_cons] at h
    rcases h with rfl | h
    · exact ⟨lo, rfl, Nat.le_refl _, by omega⟩
    · have e : ((lo : Nat) : Int) + 1 = ((lo + 1 : Nat) : Int) := by omega
      rw [e] at h
      obtain ⟨i, rfl, h1, h2⟩ := rngL_mem (lo + 1) n x h
      exact ⟨i, rfl, by omega, by omega⟩
theorem rng0_mem {n : Nat} {x : D} (h : x ∈ rngL 0 n) : ∃ i : Nat, x = .int (i : Int) ∧ i < n := by
  obtain ⟨i, e, _, h2⟩ := rngL_mem 0 n x h
  exact ⟨i, e, by omega⟩
end
end Deep

/-! Lf: fractions. -/
namespace U
open PySem Deep
local macro_rules | `(tactic| walk_at "ev") => `(tactic| try simp only [es_nil, es_cons, es_asg, es_par, es_sub, es_exp, es_ret, es_retN, es_ite, es_for, es_brk, es_cnt, es_pas, tn_nm, tn_tp, tns_nil, tns_cons, tnsLen,
  ev_v0, ev_vs, ev_cst, ev_glb, ev_typ, ev_op, ev_neg, ev_cmp, ev_chn, ev_and, ev_or, ev_not, ev_ite, ev_tup, ev_lst, ev_ix, ev_sl, ev_call, ev_bi, ev_mt, ev_tm, isStr_s, ev_dnew, ev_dget, ev_mxd, ev_lrng, lrng_i, dnew_t, dnew_k, es_frz, fz_some, walk_dt, walk_dk, ev_frz, ev_lc, ea_nil, ea_cons, ean_nil, ean_cons, eor_nil, eor_cons, eo_non, eo_som, ec_non, ec_som, ei_ex, ei_rng, ei_enm, ei_zip, ei_rev,
  bD_bl, op_add_i, op_add_s, op_add_t, op_add_l, op_sub_i, op_mul_i, op_mul_s, op_mul_l, op_fdiv_i, op_mod_i, op_pow_i, neg_i, cmp_eq, cmp_ne, eq_i, eq_s, eq_b, cmp_lt, cmp_le, cmp_gt, cmp_ge, ix_tup, ix_lst, ix_box, ix_scr, at_some, lc_nil, lc_cons, newL_f, newL_t, newL_b, len_str, len_tup, len_lst, len_scr, bi_abs, bi_max2, bi_min2, bi_int_i, bi_int_b, bi_tup_t, bi_tup_l, set_box, walk_tup, walk_lst, walk_str, rng_1, rng_2, sl_tup, sl_lst, sl_scr, wipe_nil, wipe_cons, bi_isi, kit_tup, kit_int, kit_str, kit_bl, kit_non, kit_lst, kb_tt, kb_ii, kb_ib, kb_ll, kb_it, kb_lt, kb_tl, kb_ss,
  startD, List.map_cons, List.map_nil, List.length_cons, List.length_nil, List.replicate, Nat.sub_self, Nat.reduceSub, List.cons_append, List.nil_append, List.append_nil, List.getElem?_cons_zero, List.getElem?_cons_succ, List.set_cons_zero, List.set_cons_succ, Nat.reduceAdd, Nat.zero_add, Nat.add_zero, decide_eq_true_eq, Bool.false_eq_true, if_false, if_true, reduceIte, Bool.not_true, Bool.not_false, Bool.not_eq_true', decide_eq_false_iff_not, ite_not, decide_true, decide_false, eq_self_iff_true, List.length_map, true_and, and_true, reduceCtorEq, Bool.true_eq_false, sizeLine_eq, Nat.reduceLeDiff])
theorem gcd_mod (a b : Int) (ha : 0 ≤ a) (hb : 0 < b) : Int.gcd b (a.fmod b) = Int.gcd a b := by
  rw [Int.fmod_eq_emod_of_nonneg a (by omega)]
  have e := Int.gcd_add_mul_left_right b (a % b) (a / b)
  rw [Int.emod_add_mul_ediv] at e
  rw [← e, Int.gcd_comm]
theorem x_common {L : String → Option Df} {k : Nat} {a b : Int} {h : DH} {Q : DQ} {E : XQ} (q : Q (.int (Int.gcd a b)) h) : callD (tabOf L) (k + 1) "common" [.int a, .int b] h Q E := by
  refine call_of c_common rfl rfl ?_
  unfold c_common
  walk_at "ev"
  refine whl_by (fun m σ h' => ∃ x y : Int, σ = [some (.int x), some (.int y)] ∧ 0 ≤ x ∧ 0 ≤ y ∧ m = y.toNat ∧ Int.gcd x y = Int.gcd a b ∧ h' = h) _ ⟨_, _, rfl, ?_, ?_, rfl, ?_, rfl⟩ ?_
  · split <;> omega
  · split <;> omega
  · split <;> split <;> simp only [Int.gcd_neg, Int.neg_gcd]
  · rintro m σ h' ⟨x, y, rfl, hx, hy, rfl, hg, rfl⟩ N hN
    walk_at "ev"
    split
    · rename_i hp
      refine ⟨by omega, hN (x.fmod y).toNat _ _ ?_ ⟨_, _, rfl, by omega, Int.fmod_nonneg_of_pos _ hp, rfl, ?_, rfl⟩⟩
      · have := Int.fmod_lt_of_pos x hp
        have := Int.fmod_nonneg_of_pos x hp
        omega
      · rw [gcd_mod _ _ hx hp]; exact hg
    · have : y = 0 := by omega
      subst this
      have : x = Int.gcd a b := by rw [← hg, Int.gcd_zero_right]; omega
      rw [this]
      exact q
/-- a fraction as data -/
def fD (q : Rat) : D := .tup [.int q.num, .int (q.den : Int)]
/-- how many bits at most -/
def RB (q : Rat) (n : Nat) : Prop := q.num.natAbs < 2 ^ n ∧ q.den < 2 ^ n
theorem fdok {i j : Int} (h : j ≠ 0) (hb : j.natAbs < 2 ^ 9000) : FdOk i j := ⟨h, PyProof.noPylong_of_log2 ((Nat.log2_lt (by omega)).mpr hb)⟩
theorem bits_le {i : Int} {n : Nat} (h : i.natAbs < 2 ^ n) : Builtin.Int.intBits i ≤ n := by
  unfold Builtin.Int.intBits
  split
  · omega
  · rename_i hz
    have hz' : i ≠ 0 := fun e => hz (by rw [e]; rfl)
    have := (Nat.log2_lt (n := i.natAbs) (k := n) (by omega)).mpr h
    omega
theorem mulok {i j : Int} {m n : Nat} (hi : i.natAbs < 2 ^ m) (hj : j.natAbs < 2 ^ n) (h : m + n ≤ 134217728) : MulOk i j := by
  have := bits_le hi
  have := bits_le hj
  refine .inr ?_
  show (Builtin.Int.intBits i : Int) + (Builtin.Int.intBits j : Int) ≤ 134217728
  omega
theorem mul_bd {i j : Int} {m n : Nat} (hi : i.natAbs < 2 ^ m) (hj : j.natAbs < 2 ^ n) : (i * j).natAbs < 2 ^ (m + n) := by
  rw [Int.natAbs_mul, Nat.pow_add]
  exact Nat.mul_lt_mul'' hi hj
theorem num_part {n d : Int} (hd : d ≠ 0) : n.fdiv (if d < 0 then 0 - (Int.gcd n d : Int) else (Int.gcd n d : Int)) = (Rat.divInt n d).num := by
  have hg : (Int.gcd n d : Int) ≠ 0 := by
    have : Int.gcd n d ≠ 0 := fun e => hd (Int.gcd_eq_zero_iff.mp e).2
    omega
  have dn : (Int.gcd n d : Int) ∣ n := Int.gcd_dvd_left ..
  rw [Rat.num_divInt, Int.gcd_comm d n]
  split
  · rename_i h
    rw [Int.zero_sub, Int.fdiv_eq_ediv_of_dvd ((Int.neg_dvd).mpr dn), Int.sign_eq_neg_one_of_neg h, Int.ediv_neg, Int.neg_mul, Int.one_mul, Int.neg_ediv_of_dvd dn]
  · rename_i h
    rw [Int.fdiv_eq_ediv_of_dvd dn, Int.sign_eq_one_of_pos (by omega), Int.one_mul]
theorem den_part {n d : Int} (hd : d ≠ 0) : d.fdiv (if d < 0 then 0 - (Int.gcd n d : Int) else (Int.gcd n d : Int)) = ((Rat.divInt n d).den : Int) := by
  have dn : (Int.gcd n d : Int) ∣ d := Int.gcd_dvd_right ..
  rw [Rat.den_divInt, if_neg hd, Int.gcd_comm d n, Int.natCast_ediv]
  split
  · rename_i h
    rw [Int.zero_sub, Int.fdiv_eq_ediv_of_dvd ((Int.neg_dvd).mpr dn), Int.ediv_neg, ← Int.neg_ediv_of_dvd dn]
    congr 1
    omega
  · rename_i h
    rw [Int.fdiv_eq_ediv_of_dvd dn]
    congr 1
    omega
theorem x_fraction {L : String → Option Df} {k : Nat} {n d : Int} {h : DH} {Q : DQ} {E : XQ} (hd : d ≠ 0) (hb : d.natAbs < 2 ^ 9000) (q : Q (fD (Rat.divInt n d)) h) : callD (tabOf L) (k + 2) "fraction" [.int n, .int d] h Q E := by
  refine call_of c_fraction rfl rfl ?_
  unfold c_fraction
  walk_at "ev"
  refine x_common ?_
  have hg : Int.gcd n d ≠ 0 := fun e => hd (Int.gcd_eq_zero_iff.mp e).2
  have dd : Int.gcd n d ∣ d.natAbs := Int.gcd_dvd_natAbs_right ..
  have le : Int.gcd n d ≤ d.natAbs := Nat.le_of_dvd (by omega) dd
  have e1 := num_part (n := n) hd
  have e2 := den_part (n := n) hd
  walk_at "ev"
  split
  · rename_i hp
    rw [if_pos hp] at e1 e2
    refine ⟨fdok (by omega) (by omega), fdok (by omega) (by omega), ?_⟩
    rw [e1, e2]
    exact q
  · rename_i hp
    rw [if_neg hp] at e1 e2
    refine ⟨fdok (by omega) (by omega), fdok (by omega) (by omega), ?_⟩
    rw [e1, e2]
    exact q

theorem ix_f0 {q : Rat} {h : DH} {Q : DQ} : ixD (fD q) (.int 0) h Q = Q (.int q.num) h := (rfl)
theorem ix_f1 {q : Rat} {h : DH} {Q : DQ} : ixD (fD q) (.int 1) h Q = Q (.int (q.den : Int)) h := (rfl)
theorem den_ne (q : Rat) : (q.den : Int) ≠ 0 := by have := q.den_nz; omega
theorem den_bd {a b : Rat} {m n : Nat} (ha : RB a m) (hb : RB b n) (hl : m + n ≤ 9000) : ((a.den : Int) * (b.den : Int)).natAbs < 2 ^ 9000 :=
  Nat.lt_of_lt_of_le (mul_bd (m := m) (n := n) (by simpa using ha.2) (by simpa using hb.2)) (Nat.pow_le_pow_right (by decide) hl)
theorem RB.nn {q : Rat} {n : Nat} (h : RB q n) : q.num.natAbs < 2 ^ n := h.1
theorem RB.dn {q : Rat} {n : Nat} (h : RB q n) : (q.den : Int).natAbs < 2 ^ n := by simpa using h.2
theorem x_plus {L : String → Option Df} {k : Nat} {a b : Rat} {m n : Nat} {h : DH} {Q : DQ} {E : XQ} (ha : RB a m) (hb : RB b n) (hl : m + n ≤ 9000) (q : Q (fD (a + b)) h) : callD (tabOf L) (k + 3) "plus" [fD a, fD b] h Q E := by
  refine call_of c_plus rfl rfl ?_
  unfold c_plus
  simp only [startD]
  walk_at "ev"
  simp only [ix_f0, ix_f1, op_mul_i, op_add_i]
  refine ⟨mulok ha.nn hb.dn (by omega), mulok hb.nn ha.dn (by omega), mulok ha.dn hb.dn (by omega), ?_⟩
  refine x_fraction (Int.mul_ne_zero (den_ne a) (den_ne b)) (den_bd ha hb hl) ?_
  rw [← Rat.divInt_add_divInt _ _ (den_ne a) (den_ne b), Rat.num_divInt_den, Rat.num_divInt_den]
  exact q
theorem x_less {L : String → Option Df} {k : Nat} {a b : Rat} {m n : Nat} {h : DH} {Q : DQ} {E : XQ} (ha : RB a m) (hb : RB b n) (hl : m + n ≤ 9000) (q : Q (fD (a - b)) h) : callD (tabOf L) (k + 3) "less" [fD a, fD b] h Q E := by
  refine call_of c_less rfl rfl ?_
  unfold c_less
  simp only [startD]
  walk_at "ev"
  simp only [ix_f0, ix_f1, op_mul_i, op_sub_i]
  refine ⟨mulok ha.nn hb.dn (by omega), mulok hb.nn ha.dn (by omega), mulok ha.dn hb.dn (by omega), ?_⟩
  refine x_fraction (Int.mul_ne_zero (den_ne a) (den_ne b)) (den_bd ha hb hl) ?_
  rw [← Rat.divInt_sub_divInt _ _ (den_ne a) (den_ne b), Rat.num_divInt_den, Rat.num_divInt_den]
  exact q
theorem x_times {L : String → Option Df} {k : Nat} {a b : Rat} {m n : Nat} {h : DH} {Q : DQ} {E : XQ} (ha : RB a m) (hb : RB b n) (hl : m + n ≤ 9000) (q : Q (fD (a * b)) h) : callD (tabOf L) (k + 3) "times" [fD a, fD b] h Q E := by
  refine call_of c_times rfl rfl ?_
  unfold c_times
  simp only [startD]
  walk_at "ev"
  simp only [ix_f0, ix_f1, op_mul_i]
  refine ⟨mulok ha.nn hb.nn (by omega), mulok ha.dn hb.dn (by omega), ?_⟩
  refine x_fraction (Int.mul_ne_zero (den_ne a) (den_ne b)) (den_bd ha hb hl) ?_
  rw [← Rat.divInt_mul_divInt, Rat.num_divInt_den, Rat.num_divInt_den]
  exact q
theorem num_ne {q : Rat} (h : q ≠ 0) : q.num ≠ 0 := fun e => h (Rat.num_eq_zero.mp e)
theorem x_over {L : String → Option Df} {k : Nat} {a b : Rat} {m n : Nat} {h : DH} {Q : DQ} {E : XQ} (hz : b ≠ 0) (ha : RB a m) (hb : RB b n) (hl : m + n ≤ 9000) (q : Q (fD (a / b)) h) : callD (tabOf L) (k + 3) "over" [fD a, fD b] h Q E := by
  refine call_of c_over rfl rfl ?_
  unfold c_over
  simp only [startD]
  walk_at "ev"
  simp only [ix_f0, ix_f1, op_mul_i]
  refine ⟨mulok ha.nn hb.dn (by omega), mulok ha.dn hb.nn (by omega), ?_⟩
  refine x_fraction (Int.mul_ne_zero (den_ne a) (num_ne hz)) (Nat.lt_of_lt_of_le (mul_bd ha.dn hb.nn) (Nat.pow_le_pow_right (by decide) hl)) ?_
  rw [← Rat.divInt_mul_divInt, Rat.num_divInt_den, ← Rat.inv_def, ← Rat.div_def]
  exact q
theorem tn_fD {ts : Tns} {q : Rat} {σ : DSt} {R : DSt → Prop} : tnD (.tp ts) (fD q) σ R = (2 = tnsLen ts ∧ tnsD ts [.int q.num, .int (q.den : Int)] σ R) := (rfl)
theorem len_fD {m : LK} {q : Rat} {h : DH} {Q : DQ} : biD .len m [fD q] h Q = Q (.int 2) h := (rfl)
theorem kit_fD {q : Rat} {h : DH} {n : String} : kitQ h (fD q) n = L2.kitB "tuple" n := (rfl)
theorem walk_fD {q : Rat} {h : DH} {R : List D → (DH → Prop) → Prop} : walkD (fD q) h R = R [.int q.num, .int (q.den : Int)] fun _ => True := (rfl)
instance {q : Rat} {n : Nat} : Decidable (RB q n) := inferInstanceAs (Decidable (_ ∧ _))
theorem fD_mk {n d : Int} (q : Rat) (e1 : q.num = n) (e2 : (q.den : Int) = d) : D.tup [.int n, .int d] = fD q := by subst e1 e2; rfl
theorem fD_neg (q : Rat) : D.tup [.int (0 - q.num), .int (q.den : Int)] = fD (-q) := fD_mk _ (by rw [Rat.neg_num]; omega) (by rw [Rat.neg_den])
theorem RB.neg {q : Rat} {n : Nat} (h : RB q n) : RB (-q) n := by
  unfold RB
  rw [Rat.neg_num, Rat.neg_den, Int.natAbs_neg]
  exact h
theorem RB.mono {q : Rat} {m n : Nat} (h : RB q m) (l : m ≤ n) : RB q n := ⟨Nat.lt_of_lt_of_le h.1 (Nat.pow_le_pow_right (by decide) l), Nat.lt_of_lt_of_le h.2 (Nat.pow_le_pow_right (by decide) l)⟩
theorem RB.divInt {n d : Int} {m : Nat} (hn : n.natAbs < 2 ^ m) (hd : d.natAbs < 2 ^ m) (h0 : d ≠ 0) : RB (Rat.divInt n d) m := by
  have hg : Int.gcd n d ≠ 0 := fun e => h0 (Int.gcd_eq_zero_iff.mp e).2
  constructor
  · rw [Rat.num_divInt]
    refine Nat.lt_of_le_of_lt ?_ hn
    rw [Int.natAbs_ediv_of_dvd, Int.natAbs_mul]
    · refine Nat.le_trans (Nat.div_le_self ..) ?_
      have : d.sign.natAbs = 1 := Int.natAbs_sign_of_ne_zero h0
      rw [this, Nat.one_mul]
      exact Nat.le_refl _
    · exact Int.dvd_mul_of_dvd_right (Int.gcd_dvd_right ..)
  · rw [Rat.den_divInt, if_neg h0]
    exact Nat.lt_of_le_of_lt (Nat.div_le_self ..) hd
theorem cross {n d : Int} (h0 : d ≠ 0) : (Rat.divInt n d).num * d = n * ((Rat.divInt n d).den : Int) := by
  refine (Rat.divInt_eq_divInt_iff (den_ne _) h0).mp ?_
  rw [Rat.num_divInt_den]
end U

/-! Lb: the law's draws. -/
namespace U
open PySem Deep
local macro_rules | `(tactic| walk_at "ev") => `(tactic| try simp only [es_nil, es_cons, es_asg, es_par, es_sub, es_exp, es_ret, es_retN, es_ite, es_for, es_brk, es_cnt, es_pas, tn_nm, tn_tp, tns_nil, tns_cons, tnsLen,
  ev_v0, ev_vs, ev_cst, ev_glb, ev_typ, ev_op, ev_neg, ev_cmp, ev_chn, ev_and, ev_or, ev_not, ev_ite, ev_tup, ev_lst, ev_ix, ev_sl, ev_call, ev_bi, ev_mt, ev_tm, isStr_s, ev_dnew, ev_dget, ev_mxd, ev_lrng, lrng_i, dnew_t, dnew_k, es_frz, fz_some, walk_dt, walk_dk, ev_frz, ev_lc, ea_nil, ea_cons, ean_nil, ean_cons, eor_nil, eor_cons, eo_non, eo_som, ec_non, ec_som, ei_ex, ei_rng, ei_enm, ei_zip, ei_rev,
  bD_bl, tn_fD, len_fD, kit_fD, walk_fD, ix_f0, ix_f1, op_add_i, op_add_s, op_add_t, op_add_l, op_sub_i, op_mul_i, op_mul_s, op_mul_l, op_fdiv_i, op_mod_i, op_pow_i, neg_i, cmp_eq, cmp_ne, eq_i, eq_s, eq_b, cmp_lt, cmp_le, cmp_gt, cmp_ge, ix_tup, ix_lst, ix_box, ix_scr, at_some, lc_nil, lc_cons, newL_f, newL_t, newL_b, len_str, len_tup, len_lst, len_scr, bi_abs, bi_max2, bi_min2, bi_int_i, bi_int_b, bi_tup_t, bi_tup_l, set_box, walk_tup, walk_lst, walk_str, rng_1, rng_2, sl_tup, sl_lst, sl_scr, wipe_nil, wipe_cons, bi_isi, kit_tup, kit_int, kit_str, kit_bl, kit_non, kit_lst, kb_tt, kb_ii, kb_ib, kb_ll, kb_it, kb_lt, kb_tl, kb_ss,
  startD, List.map_cons, List.map_nil, List.length_cons, List.length_nil, List.replicate, Nat.sub_self, Nat.reduceSub, List.cons_append, List.nil_append, List.append_nil, List.getElem?_cons_zero, List.getElem?_cons_succ, List.set_cons_zero, List.set_cons_succ, Nat.reduceAdd, Nat.zero_add, Nat.add_zero, decide_eq_true_eq, Bool.false_eq_true, if_false, if_true, reduceIte, Bool.not_true, Bool.not_false, Bool.not_eq_true', decide_eq_false_iff_not, ite_not, decide_true, decide_false, eq_self_iff_true, List.length_map, true_and, and_true, reduceCtorEq, Bool.true_eq_false, sizeLine_eq, Nat.reduceLeDiff])
set_option hygiene false in
local macro_rules | `(tactic| walk_at "evt") => `(tactic| simp only [es_nil, es_cons, es_asg, es_par, es_sub, es_exp, es_ret, es_retN, es_ite, es_for, es_brk, es_cnt, es_pas, tn_nm, tn_tp, tns_nil, tns_cons, tnsLen,
  ev_v0, ev_vs, ev_cst, ev_glb, ev_typ, ev_op, ev_neg, ev_cmp, ev_chn, ev_and, ev_or, ev_not, ev_ite, ev_tup, ev_lst, ev_ix, ev_sl, ev_call, ev_bi, ev_mt, ev_tm, isStr_s, ev_dnew, ev_dget, ev_mxd, ev_lrng, lrng_i, dnew_t, dnew_k, es_frz, fz_some, walk_dt, walk_dk, ev_frz, ev_lc, ea_nil, ea_cons, ean_nil, ean_cons, eor_nil, eor_cons, eo_non, eo_som, ec_non, ec_som, ei_ex, ei_rng, ei_enm, ei_zip, ei_rev,
  bD_bl, tn_fD, len_fD, kit_fD, walk_fD, ix_f0, ix_f1, op_add_i, op_add_s, op_add_t, op_add_l, op_sub_i, op_mul_i, op_mul_s, op_mul_l, op_fdiv_i, op_mod_i, op_pow_i, neg_i, cmp_eq, cmp_ne, eq_i, eq_s, eq_b, cmp_lt, cmp_le, cmp_gt, cmp_ge, ix_tup, ix_lst, ix_box, ix_scr, at_some, lc_nil, lc_cons, newL_f, newL_t, newL_b, len_str, len_tup, len_lst, len_scr, bi_abs, bi_max2, bi_min2, bi_int_i, bi_int_b, bi_tup_t, bi_tup_l, set_box, walk_tup, walk_lst, walk_str, rng_1, rng_2, sl_tup, sl_lst, sl_scr, wipe_nil, wipe_cons, bi_isi, kit_tup, kit_int, kit_str, kit_bl, kit_non, kit_lst, kb_tt, kb_ii, kb_ib, kb_ll, kb_it, kb_lt, kb_tl, kb_ss,
  startD, List.map_cons, List.map_nil, List.length_cons, List.length_nil, List.replicate, Nat.sub_self, Nat.reduceSub, List.cons_append, List.nil_append, List.append_nil, List.getElem?_cons_zero, List.getElem?_cons_succ, List.set_cons_zero, List.set_cons_succ, Nat.reduceAdd, Nat.zero_add, Nat.add_zero, decide_eq_true_eq, Bool.false_eq_true, if_false, if_true, reduceIte, Bool.not_true, Bool.not_false, Bool.not_eq_true', decide_eq_false_iff_not, ite_not, decide_true, decide_false, eq_self_iff_true, List.length_map, true_and, and_true, reduceCtorEq, Bool.true_eq_false, sizeLine_eq, Nat.reduceLeDiff] at tl)
theorem fmod_pos (a : Int) {b : Int} (hb : 0 < b) : 0 ≤ a.fmod b ∧ a.fmod b < b := ⟨Int.fmod_nonneg_of_pos _ hb, Int.fmod_lt_of_pos _ hb⟩
theorem fdiv_nn {a b : Int} (ha : 0 ≤ a) (hb : 0 < b) : 0 ≤ a.fdiv b := by
  rw [Int.fdiv_eq_ediv_of_nonneg a (by omega)]
  exact Int.ediv_nonneg ha (by omega)
theorem mul64 {i j : Int} (h : -(2 ^ 64) < i ∧ i < 2 ^ 64 ∨ -(2 ^ 64) < j ∧ j < 2 ^ 64) : MulOk i j := .inl h
theorem x_take {L : String → Option Df} {k : Nat} {a : Addr} {w : Int} {h : DH} {Q : DQ} {E : XQ} (hw : 0 < w) (hb : w.natAbs < 2 ^ 9000) (q : ∀ r : Int, 0 ≤ r → r < w → Q (.int r) h) : callD (tabOf L) (k + 1) "_law_take" [.box a, .int w] h Q E := by
  refine call_of c__law_take rfl rfl ?_
  unfold c__law_take
  walk_at "ev"
  have box0 : ∀ R : DQ, (∀ c, 0 ≤ c → R (.int c) h) → boxD 0 h R := fun R r => .inl ⟨rfl, r⟩
  have box1 : ∀ R : DQ, (∀ c, 1 ≤ c → c ≤ 2147483629 → R (.int c) h) → boxD 1 h R := fun R r => .inr ⟨rfl, r⟩
  refine box0 _ fun c hc => ?_
  walk_at "ev"
  split
  · refine box0 _ fun c2 hc2 => ?_
    walk_at "ev"
    refine ⟨by omega, box0 _ fun c3 hc3 => ?_⟩
    walk_at "ev"
    refine ⟨fdok (by omega) hb, .inl (fdiv_nn hc3 hw), ?_⟩
    have := fmod_pos c2 hw
    exact q _ this.1 this.2
  · refine box1 _ fun s h1 h2 => ?_
    walk_at "ev"
    refine ⟨mul64 (.inr (by decide)), by decide, mul64 (.inr (by decide)), by decide, ?_⟩
    have r1 := fmod_pos (s * 69623) (b := 2147483647) (by decide)
    have r2 := fmod_pos ((s * 69623).fmod 2147483647 * 48271 + 30103) (b := 2147483629) (by decide)
    refine ⟨.inr ⟨by omega, by omega⟩, mul64 (.inr (by decide)), box1 _ fun t h3 h4 => ?_⟩
    walk_at "ev"
    refine ⟨fdok (by decide) (by decide), by omega, ?_⟩
    have := fmod_pos (((s * 69623).fmod 2147483647 * 2147483647 + t).fdiv 8191) hw
    exact q _ this.1 this.2
theorem x_lfraction {L : String → Option Df} {k : Nat} {n d : Int} {h : DH} {Q : DQ} {E : XQ} (hd : d ≠ 0) (hb : d.natAbs < 2 ^ 9000) (q : Q (fD (Rat.divInt n d)) h) : callD (tabOf L) (k + 1) "_law_fraction" [.int n, .int d] h Q E := by
  refine call_of c__law_fraction rfl rfl ?_
  unfold c__law_fraction
  walk_at "ev"
  have hg : Int.gcd n d ≠ 0 := fun e => hd (Int.gcd_eq_zero_iff.mp e).2
  have dd : Int.gcd n d ∣ d.natAbs := Int.gcd_dvd_natAbs_right ..
  have le : Int.gcd n d ≤ d.natAbs := Nat.le_of_dvd (by omega) dd
  have e1 := num_part (n := n) hd
  have e2 := den_part (n := n) hd
  refine whl_by (fun m σ h' => ∃ x y : Int, σ = [some (.int n), some (.int d), some (.int x), some (.int y)] ∧ 0 ≤ x ∧ 0 ≤ y ∧ m = y.toNat ∧ Int.gcd x y = Int.gcd n d ∧ h' = h) _ ⟨_, _, rfl, ?_, ?_, rfl, ?_, rfl⟩ ?_
  · split <;> omega
  · split <;> omega
  · split <;> split <;> simp only [Int.gcd_neg, Int.neg_gcd]
  · rintro m σ h' ⟨x, y, rfl, hx, hy, rfl, hg', rfl⟩ N hN
    walk_at "ev"
    by_cases hy0 : y = 0
    · subst hy0
      have ex : x = Int.gcd n d := by rw [← hg', Int.gcd_zero_right]; omega
      subst ex
      walk_at "ev"
      split
      · rename_i hp
        rw [if_pos hp] at e1 e2
        refine ⟨fdok (by omega) (by omega), fdok (by omega) (by omega), ?_⟩
        rw [e1, e2]
        exact q
      · rename_i hp
        rw [if_neg hp] at e1 e2
        refine ⟨fdok (by omega) (by omega), fdok (by omega) (by omega), ?_⟩
        rw [e1, e2]
        exact q
    · rw [if_neg hy0]
      have hp : 0 < y := by omega
      refine ⟨hy0, hN (x.fmod y).toNat _ _ ?_ ⟨_, _, rfl, by omega, Int.fmod_nonneg_of_pos _ hp, rfl, ?_, rfl⟩⟩
      · have := Int.fmod_lt_of_pos x hp
        have := Int.fmod_nonneg_of_pos x hp
        omega
      · rw [gcd_mod _ _ hx hp]; exact hg'
theorem atI_of_nat {α : Type} {xs : List α} {i : Nat} (h : i < xs.length) : L2.atI xs (i : Int) = xs[i]? := by
  unfold L2.atI L2.ixN
  simp [h]
theorem x_box {L : String → Option Df} {k : Nat} {ns : List Int} {i : Nat} {h : DH} {Q : DQ} {E : XQ} (q : ∀ p, Q (.box p) h) : callD (tabOf L) (k + 1) "_law_box" [.scr ns, .int (i : Int)] h Q E := by
  refine call_of c__law_box rfl rfl ?_
  unfold c__law_box
  have fin : ∀ c : Int, ((c.fmod 2147483629 * 48271 + 40692 * (i : Int)).fmod 2147483629 + 1 ≤ 2147483629 ∧ 1 ≤ (c.fmod 2147483629 * 48271 + 40692 * (i : Int)).fmod 2147483629 + 1) := fun c => by
    have := fmod_pos (c.fmod 2147483629 * 48271 + 40692 * (i : Int)) (b := 2147483629) (by decide)
    omega
  have tail : ∀ c : Int, 2147483629 ≠ (0 : Int) ∧ MulOk (c.fmod 2147483629) 48271 ∧ MulOk 40692 (i : Int) := fun c => ⟨by decide, mul64 (.inr (by decide)), mul64 (.inl (by decide))⟩
  have bx : ∀ c : Int, BoxOk (c * if decide ((10 : Int) ^ Int.toNat 18 ≤ c) = true then 1 else 0) ((c.fmod 2147483629 * 48271 + 40692 * (i : Int)).fmod 2147483629 + 1) := fun c => by
    refine ⟨?_, (fin c).2, (fin c).1⟩
    split
    · rename_i hp
      have : (0 : Int) ≤ 10 ^ Int.toNat 18 := by decide
      have := of_decide_eq_true hp
      omega
    · omega
  walk_at "ev"
  refine ⟨mul64 (.inl (by decide)), ?_⟩
  have cp : L2.CPow 10 18 := ⟨by decide, by decide, by decide⟩
  split
  · rename_i hl
    have hl' : i < ns.length := by omega
    rw [atI_of_nat (xs := ns.map D.int) (by simpa using hl'), List.getElem?_eq_getElem (by simpa using hl'), List.getElem_map]
    walk_at "ev"
    have b := bx ns[i]
    simp only [decide_eq_true_eq] at b
    exact ⟨by decide, mul64 (.inr (by decide)), mul64 (.inl (by decide)), by decide, cp, mul64 (.inr (by split <;> decide)), b, q⟩
  · split
    · rename_i h1 h2
      have hlt : i % ns.length < ns.length := Nat.mod_lt _ (by omega)
      have e : ((i : Nat) : Int).fmod (ns.length : Int) = ((i % ns.length : Nat) : Int) := by
        rw [Int.fmod_eq_emod_of_nonneg _ (by omega), Int.natCast_emod]
      refine ⟨by omega, ?_⟩
      rw [e, atI_of_nat (xs := ns.map D.int) (by simpa using hlt), List.getElem?_eq_getElem (by simpa using hlt), List.getElem_map]
      walk_at "ev"
      have b := bx (7919 * (i : Int) + 11 + (ns[i % ns.length]).fmod 2147483629 * 69623)
      simp only [decide_eq_true_eq] at b
      exact ⟨by decide, mul64 (.inr (by decide)), by decide, mul64 (.inr (by decide)), mul64 (.inl (by decide)), by decide, cp, mul64 (.inr (by split <;> decide)), b, q⟩
    · have b := bx (7919 * (i : Int) + 11)
      simp only [decide_eq_true_eq] at b
      exact ⟨by decide, mul64 (.inr (by decide)), mul64 (.inl (by decide)), by decide, cp, mul64 (.inr (by split <;> decide)), b, q⟩
theorem x_take64 {L : String → Option Df} {k : Nat} {a : Addr} {w : Int} {h : DH} {Q : DQ} {E : XQ} (hw : 0 < w) (hb : w < 18446744073709551616) (q : ∀ r : Int, 0 ≤ r → r < w → Q (.int r) h) : callD (tabOf L) (k + 1) "_law_take" [.box a, .int w] h Q E :=
  x_take hw (Nat.lt_of_lt_of_le (by omega : w.natAbs < 2 ^ 64) (Nat.pow_le_pow_right (by decide) (by decide))) q
end U

/-! Lr: rows, names, texts of data, as many laws have them. -/
namespace U
open PySem Deep
theorem at_0 {α : Type} {a : α} {l : List α} : L2.atI (a :: l) 0 = some a := by simp [L2.atI, L2.ixN]
theorem at_1 {α : Type} {a b : α} {l : List α} : L2.atI (a :: b :: l) 1 = some b := by
  simp only [L2.atI, L2.ixN, List.length_cons]
  rw [if_pos (by omega), if_pos (by omega)]
  rfl
theorem at_2 {α : Type} {a b c : α} {l : List α} : L2.atI (a :: b :: c :: l) 2 = some c := by
  simp only [L2.atI, L2.ixN, List.length_cons]
  rw [if_pos (by omega), if_pos (by omega)]
  rfl
theorem cmp_inn_t {x : D} {xs : List D} {h : DH} {R : Bool → Prop} : cmpD .inn x (.tup xs) h R = (flatD x = true ∧ xs.all flatD = true ∧ R (inD x xs)) := (rfl)
theorem cmp_notin_t {x : D} {xs : List D} {h : DH} {R : Bool → Prop} : cmpD .notin x (.tup xs) h R = (flatD x = true ∧ xs.all flatD = true ∧ R (!inD x xs)) := (rfl)
theorem cmp_inn_r {x : D} {a : Addr} {xs : List D} {h : DH} {R : Bool → Prop} (e : h a = some (.lst xs)) : cmpD .inn x (.ref a) h R = (flatD x = true ∧ xs.all flatD = true ∧ R (inD x xs)) := by simp only [cmpD, asS, asR, asL, e]
theorem cmp_notin_r {x : D} {a : Addr} {xs : List D} {h : DH} {R : Bool → Prop} (e : h a = some (.lst xs)) : cmpD .notin x (.ref a) h R = (flatD x = true ∧ xs.all flatD = true ∧ R (!inD x xs)) := by simp only [cmpD, asS, asR, asL, e]
theorem app_r {p : Addr} {xs : List D} {x : D} {h : DH} {Q : DQ} (e : h p = some (.lst xs)) (hz : xs.length < sizeLine) (q : Q .non (updD h p (.lst (xs ++ [x])))) : lstAt h (.ref p) ∧ mtD .append (.ref p) [x] h Q := by
  simp only [lstAt, mtD, e]
  exact ⟨trivial, hz, q⟩
theorem clear_r {p : Addr} {xs : List D} {h : DH} {Q : DQ} (e : h p = some (.lst xs)) (q : Q .non (updD h p (.lst []))) : lstAt h (.ref p) ∧ mtD .clear (.ref p) [] h Q := by
  simp only [lstAt, mtD, e]
  exact ⟨trivial, q⟩
theorem frz_r {p : Addr} {xs : List D} {h : DH} {Q : DQ} (e : h p = some (.lst xs)) : frzD (.ref p) h Q = Q (.lst xs) (delD h p) := by simp only [frzD, e]
theorem delD_updD {p : Addr} {o : MO} {h : DH} (e : h p = none) : delD (updD h p o) p = h := by
  funext b
  unfold delD updD
  by_cases hb : b = p
  · rw [if_pos hb, hb, e]
  · rw [if_neg hb, if_neg hb]
theorem set_r {p : Addr} {xs : List D} {i : Int} {v : D} {h : DH} {R : DH → Prop} (e : h p = some (.lst xs)) (h0 : 0 ≤ i) (h1 : i < xs.length) (q : R (updD h p (.lst (xs.set i.toNat v)))) : setD (.ref p) (.int i) v h R := by
  simp only [setD, e, L2.ixN, if_pos h0, if_pos h1]
  exact q
theorem sl_r {m : LK} {a : Addr} {xs : List D} {lo hi : Option Int} {h : DH} {Q : DQ} (e : h a = some (.lst xs)) : slD m (.ref a) lo hi h Q = newL m ((xs.drop (HT.sIx xs.length 0 lo)).take (HT.sIx xs.length xs.length hi - HT.sIx xs.length 0 lo)) h Q := by simp only [slD, asR, asL, e]
theorem kit_r {a : Addr} {xs : List D} {n : String} {h : DH} (e : h a = some (.lst xs)) : kitQ h (.ref a) n = L2.kitB "list" n := by simp only [kitQ, tyH, e]
theorem op_add_rl {m : LK} {a : Addr} {xs ys : List D} {h : DH} {Q : DQ} (e : h a = some (.lst xs)) : opD .add m (.ref a) (.lst ys) h Q = (xs.length + ys.length ≤ sizeLine ∧ newL m (xs ++ ys) h Q) := by simp only [opD, asL, e]
theorem sIx_to {n : Nat} {i : Int} (h0 : 0 ≤ i) (h1 : i ≤ n) : HT.sIx n n (some i) - HT.sIx n 0 none = i.toNat := by
  unfold HT.sIx
  simp only [if_neg (show ¬ i < 0 by omega)]
  omega
theorem sIx_0 {n : Nat} : HT.sIx n 0 none = 0 := (rfl)
theorem flat_s {z : Str} : (flatD (.str z) = true) = True := eq_true rfl
theorem all_ss : (([.str "plus", .str "less", .str "times", .str "over"] : List D).all flatD = true) = True := eq_true rfl
theorem all_strs (ss : List Str) : (ss.map D.str).all flatD = true := by
  rw [List.all_eq_true]
  intro x hx
  obtain ⟨s, _, rfl⟩ := List.mem_map.mp hx
  rfl
theorem w_plus_plus : ((("plus" : String) : Str) = ("plus" : String)) = True := eq_true rfl
theorem w_plus_less : ((("plus" : String) : Str) = ("less" : String)) = False := eq_false (by decide)
theorem w_plus_times : ((("plus" : String) : Str) = ("times" : String)) = False := eq_false (by decide)
theorem w_plus_over : ((("plus" : String) : Str) = ("over" : String)) = False := eq_false (by decide)
theorem w_plus_number : ((("plus" : String) : Str) = ("number" : String)) = False := eq_false (by decide)
theorem w_plus_letter : ((("plus" : String) : Str) = ("letter" : String)) = False := eq_false (by decide)
theorem w_less_plus : ((("less" : String) : Str) = ("plus" : String)) = False := eq_false (by decide)
theorem w_less_less : ((("less" : String) : Str) = ("less" : String)) = True := eq_true rfl
theorem w_less_times : ((("less" : String) : Str) = ("times" : String)) = False := eq_false (by decide)
theorem w_less_over : ((("less" : String) : Str) = ("over" : String)) = False := eq_false (by decide)
theorem w_less_number : ((("less" : String) : Str) = ("number" : String)) = False := eq_false (by decide)
theorem w_less_letter : ((("less" : String) : Str) = ("letter" : String)) = False := eq_false (by decide)
theorem w_times_plus : ((("times" : String) : Str) = ("plus" : String)) = False := eq_false (by decide)
theorem w_times_less : ((("times" : String) : Str) = ("less" : String)) = False := eq_false (by decide)
theorem w_times_times : ((("times" : String) : Str) = ("times" : String)) = True := eq_true rfl
theorem w_times_over : ((("times" : String) : Str) = ("over" : String)) = False := eq_false (by decide)
theorem w_times_number : ((("times" : String) : Str) = ("number" : String)) = False := eq_false (by decide)
theorem w_times_letter : ((("times" : String) : Str) = ("letter" : String)) = False := eq_false (by decide)
theorem w_over_plus : ((("over" : String) : Str) = ("plus" : String)) = False := eq_false (by decide)
theorem w_over_less : ((("over" : String) : Str) = ("less" : String)) = False := eq_false (by decide)
theorem w_over_times : ((("over" : String) : Str) = ("times" : String)) = False := eq_false (by decide)
theorem w_over_over : ((("over" : String) : Str) = ("over" : String)) = True := eq_true rfl
theorem w_over_number : ((("over" : String) : Str) = ("number" : String)) = False := eq_false (by decide)
theorem w_over_letter : ((("over" : String) : Str) = ("letter" : String)) = False := eq_false (by decide)
theorem w_number_plus : ((("number" : String) : Str) = ("plus" : String)) = False := eq_false (by decide)
theorem w_number_less : ((("number" : String) : Str) = ("less" : String)) = False := eq_false (by decide)
theorem w_number_times : ((("number" : String) : Str) = ("times" : String)) = False := eq_false (by decide)
theorem w_number_over : ((("number" : String) : Str) = ("over" : String)) = False := eq_false (by decide)
theorem w_number_number : ((("number" : String) : Str) = ("number" : String)) = True := eq_true rfl
theorem w_number_letter : ((("number" : String) : Str) = ("letter" : String)) = False := eq_false (by decide)
theorem w_letter_plus : ((("letter" : String) : Str) = ("plus" : String)) = False := eq_false (by decide)
theorem w_letter_less : ((("letter" : String) : Str) = ("less" : String)) = False := eq_false (by decide)
theorem w_letter_times : ((("letter" : String) : Str) = ("times" : String)) = False := eq_false (by decide)
theorem w_letter_over : ((("letter" : String) : Str) = ("over" : String)) = False := eq_false (by decide)
theorem w_letter_number : ((("letter" : String) : Str) = ("number" : String)) = False := eq_false (by decide)
theorem w_letter_letter : ((("letter" : String) : Str) = ("letter" : String)) = True := eq_true rfl
theorem in_plus : inD (.str "plus") [.str "plus", .str "less", .str "times", .str "over"] = true := by decide
theorem in_less : inD (.str "less") [.str "plus", .str "less", .str "times", .str "over"] = true := by decide
theorem in_times : inD (.str "times") [.str "plus", .str "less", .str "times", .str "over"] = true := by decide
theorem in_over : inD (.str "over") [.str "plus", .str "less", .str "times", .str "over"] = true := by decide
theorem in_number : inD (.str "number") [.str "plus", .str "less", .str "times", .str "over"] = false := by decide
theorem in_letter : inD (.str "letter") [.str "plus", .str "less", .str "times", .str "over"] = false := by decide
theorem join_len (a : Str) : ∀ ys : List Str, (Str.join a ys).length ≤ (ys.map (·.length)).sum + ys.length * a.length
  | [] => Nat.zero_le _
  | [x] => by simp [Str.join]
  | x :: z :: r => by
    show (x ++ a ++ Str.join a (z :: r)).length ≤ _
    have ih := join_len a (z :: r)
    rw [Str.length_append, Str.length_append]
    simp only [List.map_cons, List.sum_cons, List.length_cons] at ih ⊢
    rw [Nat.succ_mul, Nat.succ_mul] at *
    omega
end U

/-! Ln: drawn names, as many laws have them. -/
namespace U
open PySem Deep
local macro_rules | `(tactic| walk_at "ev") => `(tactic| try simp only [es_nil, es_cons, es_asg, es_par, es_sub, es_exp, es_ret, es_retN, es_ite, es_for, es_brk, es_cnt, es_pas, tn_nm, tn_tp, tns_nil, tns_cons, tnsLen,
  ev_v0, ev_vs, ev_cst, ev_glb, ev_typ, ev_op, ev_neg, ev_cmp, ev_chn, ev_and, ev_or, ev_not, ev_ite, ev_tup, ev_lst, ev_ix, ev_sl, ev_call, ev_bi, ev_mt, ev_tm, isStr_s, ev_dnew, ev_dget, ev_mxd, ev_lrng, lrng_i, dnew_t, dnew_k, es_frz, fz_some, walk_dt, walk_dk, ev_frz, ev_lc, ea_nil, ea_cons, ean_nil, ean_cons, eor_nil, eor_cons, eo_non, eo_som, ec_non, ec_som, ei_ex, ei_rng, ei_enm, ei_zip, ei_rev,
  bD_bl, tn_fD, len_fD, kit_fD, walk_fD, ix_f0, ix_f1, op_add_i, op_add_s, op_add_t, op_add_l, op_sub_i, op_mul_i, op_mul_s, op_mul_l, op_fdiv_i, op_mod_i, op_pow_i, neg_i, cmp_eq, cmp_ne, eq_i, eq_s, eq_b, cmp_lt, cmp_le, cmp_gt, cmp_ge, ix_tup, ix_lst, ix_box, ix_scr, at_some, lc_nil, lc_cons, newL_f, newL_t, newL_b, len_str, len_tup, len_lst, len_scr, bi_abs, bi_max2, bi_min2, bi_int_i, bi_int_b, bi_tup_t, bi_tup_l, set_box, walk_tup, walk_lst, walk_str, rng_1, rng_2, sl_tup, sl_lst, sl_scr, wipe_nil, wipe_cons, bi_isi, kit_tup, kit_int, kit_str, kit_bl, kit_non, kit_lst, kb_tt, kb_ii, kb_ib, kb_ll, kb_it, kb_lt, kb_tl, kb_ss, w_plus_plus, w_plus_less, w_plus_times, w_plus_over, w_plus_number, w_plus_letter, w_less_plus, w_less_less, w_less_times, w_less_over, w_less_number, w_less_letter, w_times_plus, w_times_less, w_times_times, w_times_over, w_times_number, w_times_letter, w_over_plus, w_over_less, w_over_times, w_over_over, w_over_number, w_over_letter, w_number_plus, w_number_less, w_number_times, w_number_over, w_number_number, w_number_letter, w_letter_plus, w_letter_less, w_letter_times, w_letter_over, w_letter_number, w_letter_letter, in_plus, in_less, in_times, in_over, in_number, in_letter, at_0, at_1, at_2, cmp_inn_t, cmp_notin_t, flat_s, all_ss,
  startD, List.map_cons, List.map_nil, List.length_cons, List.length_nil, List.replicate, Nat.sub_self, Nat.reduceSub, List.cons_append, List.nil_append, List.append_nil, List.getElem?_cons_zero, List.getElem?_cons_succ, List.set_cons_zero, List.set_cons_succ, Nat.reduceAdd, Nat.zero_add, Nat.add_zero, decide_eq_true_eq, Bool.false_eq_true, if_false, if_true, reduceIte, Bool.not_true, Bool.not_false, Bool.not_eq_true', decide_eq_false_iff_not, ite_not, decide_true, decide_false, eq_self_iff_true, List.length_map, true_and, and_true, reduceCtorEq, Bool.true_eq_false, sizeLine_eq, Nat.reduceLeDiff])
set_option hygiene false in
local macro_rules | `(tactic| walk_at "evt") => `(tactic| simp only [es_nil, es_cons, es_asg, es_par, es_sub, es_exp, es_ret, es_retN, es_ite, es_for, es_brk, es_cnt, es_pas, tn_nm, tn_tp, tns_nil, tns_cons, tnsLen,
  ev_v0, ev_vs, ev_cst, ev_glb, ev_typ, ev_op, ev_neg, ev_cmp, ev_chn, ev_and, ev_or, ev_not, ev_ite, ev_tup, ev_lst, ev_ix, ev_sl, ev_call, ev_bi, ev_mt, ev_tm, isStr_s, ev_dnew, ev_dget, ev_mxd, ev_lrng, lrng_i, dnew_t, dnew_k, es_frz, fz_some, walk_dt, walk_dk, ev_frz, ev_lc, ea_nil, ea_cons, ean_nil, ean_cons, eor_nil, eor_cons, eo_non, eo_som, ec_non, ec_som, ei_ex, ei_rng, ei_enm, ei_zip, ei_rev,
  bD_bl, tn_fD, len_fD, kit_fD, walk_fD, ix_f0, ix_f1, op_add_i, op_add_s, op_add_t, op_add_l, op_sub_i, op_mul_i, op_mul_s, op_mul_l, op_fdiv_i, op_mod_i, op_pow_i, neg_i, cmp_eq, cmp_ne, eq_i, eq_s, eq_b, cmp_lt, cmp_le, cmp_gt, cmp_ge, ix_tup, ix_lst, ix_box, ix_scr, at_some, lc_nil, lc_cons, newL_f, newL_t, newL_b, len_str, len_tup, len_lst, len_scr, bi_abs, bi_max2, bi_min2, bi_int_i, bi_int_b, bi_tup_t, bi_tup_l, set_box, walk_tup, walk_lst, walk_str, rng_1, rng_2, sl_tup, sl_lst, sl_scr, wipe_nil, wipe_cons, bi_isi, kit_tup, kit_int, kit_str, kit_bl, kit_non, kit_lst, kb_tt, kb_ii, kb_ib, kb_ll, kb_it, kb_lt, kb_tl, kb_ss, w_plus_plus, w_plus_less, w_plus_times, w_plus_over, w_plus_number, w_plus_letter, w_less_plus, w_less_less, w_less_times, w_less_over, w_less_number, w_less_letter, w_times_plus, w_times_less, w_times_times, w_times_over, w_times_number, w_times_letter, w_over_plus, w_over_less, w_over_times, w_over_over, w_over_number, w_over_letter, w_number_plus, w_number_less, w_number_times, w_number_over, w_number_number, w_number_letter, w_letter_plus, w_letter_less, w_letter_times, w_letter_over, w_letter_number, w_letter_letter, in_plus, in_less, in_times, in_over, in_number, in_letter, at_0, at_1, at_2, cmp_inn_t, cmp_notin_t, flat_s, all_ss,
  startD, List.map_cons, List.map_nil, List.length_cons, List.length_nil, List.replicate, Nat.sub_self, Nat.reduceSub, List.cons_append, List.nil_append, List.append_nil, List.getElem?_cons_zero, List.getElem?_cons_succ, List.set_cons_zero, List.set_cons_succ, Nat.reduceAdd, Nat.zero_add, Nat.add_zero, decide_eq_true_eq, Bool.false_eq_true, if_false, if_true, reduceIte, Bool.not_true, Bool.not_false, Bool.not_eq_true', decide_eq_false_iff_not, ite_not, decide_true, decide_false, eq_self_iff_true, List.length_map, true_and, and_true, reduceCtorEq, Bool.true_eq_false, sizeLine_eq, Nat.reduceLeDiff] at tl)
theorem ix_alpha {r : Int} {h : DH} {Q : DQ} (h0 : 0 ≤ r) (h1 : r < 26) (q : ∀ c : Nat, Q (.str ⟨#[c]⟩) h) : ixD (.str "abcdefghijklmnopqrstuvwxyz") (.int r) h Q := by
  have hl : (("abcdefghijklmnopqrstuvwxyz" : String) : Str).cps.toList.length = 26 := by decide +kernel
  have hl2 : (("abcdefghijklmnopqrstuvwxyz" : String) : Str).length ≤ sizeLine := by decide +kernel
  refine ⟨hl2, ?_⟩
  have e : L2.atI (("abcdefghijklmnopqrstuvwxyz" : String) : Str).cps.toList r = (("abcdefghijklmnopqrstuvwxyz" : String) : Str).cps.toList[r.toNat]? := by
    unfold L2.atI L2.ixN
    rw [hl, if_pos h0, if_pos (by omega)]
    rfl
  rw [e, List.getElem?_eq_getElem (by omega)]
  exact q _
theorem one_len (c : Nat) : (⟨#[c]⟩ : Str).length = 1 := rfl
/-- texts of so many signs at most -/
def Short (n : Nat) (ss : List Str) : Prop := ∀ s ∈ ss, s.length ≤ n
theorem Short.sum {n : Nat} : ∀ {ss : List Str}, Short n ss → (ss.map (·.length)).sum ≤ n * ss.length
  | [], _ => by simp
  | s :: ss, h => by
    have a := h s (List.mem_cons_self ..)
    have b := Short.sum (ss := ss) fun x hx => h x (List.mem_cons_of_mem _ hx)
    simp only [List.map_cons, List.sum_cons, List.length_cons, Nat.mul_succ]
    omega
theorem x_cut {ss : List Str} {b n : Nat} {h : DH} {Q : DQ} (hs : Short 1 ss) (hl : ss.length ≤ 100) (q : ∀ z : Str, z.length ≤ 100 → Q (.str z) h) :
    tmD .join .f (.str "") (.lst (List.take n (List.drop b (ss.map D.str)))) h Q := by
  let ys := (ss.drop b).take n
  rw [tm_join (ys := ys) rfl (by simp only [ys, List.map_take, List.map_drop])]
  have sy : Short 1 ys := fun x hx => hs x (List.mem_of_mem_drop (List.mem_of_mem_take hx))
  have ly : ys.length ≤ 100 := by
    simp only [ys, List.length_take, List.length_drop]
    omega
  have a := sy.sum
  have e0 : (("" : String) : Str).length = 0 := rfl
  have b := join_len "" ys
  rw [e0] at b
  refine ⟨by rw [e0]; omega, ?_⟩
  have e : Txt.join "" ys = Str.join "" ys := TL.join_eq _ _
  rw [e]
  exact q _ (by omega)
theorem x_q {r : Int} {h : DH} {Q : DQ} (h0 : 0 ≤ r) (h1 : r < 2) (q : ∀ z : Str, z.length ≤ 2 → Q (.str z) h) : opD .mul .f (.str "q") (.int r) h Q := by
  rw [op_mul_s]
  have e0 : (("q" : String) : Str).length = 1 := rfl
  have sz : sizeLine = 16777216 := rfl
  refine ⟨⟨by omega, by omega, by rw [e0]; omega, by rw [e0]; omega⟩, q _ ?_⟩
  unfold repS
  show ((List.replicate r.toNat (("q" : String) : Str).cps).foldl (· ++ ·) #[]).size ≤ 2
  rw [repS_len, e0]
  omega
theorem x_number {L : String → Option Df} {k : Nat} {a : Addr} {h : DH} {Q : DQ} {E : XQ} (q : ∀ f : Rat, RB f 21 → Q (fD f) h) : callD (tabOf L) (k + 2) "_law_number" [.box a] h Q E := by
  refine call_of c__law_number rfl rfl ?_
  unfold c__law_number
  walk_at "ev"
  refine x_take64 (by decide) (by decide) fun r h0 h1 => ?_
  walk_at "ev"
  split
  · rename_i h7
    have all : ∀ (n d : Int) (f : Rat), f.num = n → (f.den : Int) = d → RB f 21 → Q (.tup [.int n, .int d]) h := fun n d f e1 e2 b => by
      rw [fD_mk f e1 e2]
      exact q f b
    have e : r = 0 ∨ r = 1 ∨ r = 2 ∨ r = 3 ∨ r = 4 ∨ r = 5 ∨ r = 6 := by omega
    rcases e with rfl | rfl | rfl | rfl | rfl | rfl | rfl
    · exact at_of rfl (all 0 1 0 rfl rfl (by decide +kernel))
    · exact at_of rfl (all 1 1 1 rfl rfl (by decide +kernel))
    · exact at_of rfl (all 1 1 1 rfl rfl (by decide +kernel))
    · exact at_of rfl (all (-1) 1 (-1) rfl rfl (by decide +kernel))
    · exact at_of rfl (all 2 1 2 rfl rfl (by decide +kernel))
    · exact at_of rfl (all 1 2 (Rat.divInt 1 2) (by decide +kernel) (by decide +kernel) (by decide +kernel))
    · exact at_of rfl (all (-2) 3 (Rat.divInt (-2) 3) (by decide +kernel) (by decide +kernel) (by decide +kernel))
  · split
    · refine x_take64 (by decide) (by decide) fun r1 h2 h3 => ?_
      walk_at "ev"
      refine x_take64 (by decide) (by decide) fun r2 h4 h5 => ?_
      walk_at "ev"
      have hb : (1 + r2).natAbs < 2 ^ 21 := by omega
      exact x_lfraction (by omega) (Nat.lt_of_lt_of_le hb (Nat.pow_le_pow_right (by decide) (by decide))) (q _ (RB.divInt (by omega) hb (by omega)))
    · refine x_take64 (by decide) (by decide) fun r1 h2 h3 => ?_
      walk_at "ev"
      refine x_take64 (by decide) (by decide) fun r2 h4 h5 => ?_
      walk_at "ev"
      have hb : (1 + r2).natAbs < 2 ^ 21 := by omega
      exact x_lfraction (by omega) (Nat.lt_of_lt_of_le hb (Nat.pow_le_pow_right (by decide) (by decide))) (q _ (RB.divInt (by omega) hb (by omega)))
theorem x_small {L : String → Option Df} {k : Nat} {a : Addr} {h : DH} {Q : DQ} {E : XQ} (q : ∀ f : Rat, RB f 3 → Q (fD f) h) : callD (tabOf L) (k + 2) "_law_small" [.box a] h Q E := by
  refine call_of c__law_small rfl rfl ?_
  unfold c__law_small
  walk_at "ev"
  refine x_take64 (by decide) (by decide) fun r1 h2 h3 => ?_
  walk_at "ev"
  refine x_take64 (by decide) (by decide) fun r2 h4 h5 => ?_
  walk_at "ev"
  have hb : (1 + r2).natAbs < 2 ^ 3 := by omega
  exact x_lfraction (by omega) (Nat.lt_of_lt_of_le hb (Nat.pow_le_pow_right (by decide) (by decide))) (q _ (RB.divInt (by omega) hb (by omega)))
theorem x_names {L : String → Option Df} {k : Nat} {a : Addr} {m : Nat} {h : DH} {Q : DQ} {E : XQ} (hm : 1 ≤ m ∧ m ≤ 4) (q : ∀ ns : List Str, ns.length = m → Short 210 ns → Q (.tup (ns.map D.str)) h) : callD (tabOf L) (k + 2) "_law_names" [.box a, .int (m : Int)] h Q E := by
  refine call_of c__law_names rfl rfl ?_
  unfold c__law_names
  walk_at "ev"
  refine x_take64 (by decide) (by decide) fun r0 h0 h1 => ?_
  walk_at "ev"
  refine ⟨by omega, by omega, ?_⟩
  refine lcD_by (fun r acc h' => (∀ x ∈ r, ∃ i : Nat, x = .int (i : Int)) ∧ acc.length + r.length = 1 + r0.toNat ∧ h' = h ∧ ∃ ss : List Str, acc = ss.map D.str ∧ Short 1 ss) ?_ ?_ ?_ _ _ _ ⟨fun x hx => ?_, ?_, rfl, [], rfl, fun _ z => nomatch z⟩
  · rintro x r acc h' ⟨_, e, _⟩
    have sz : sizeLine = 16777216 := rfl
    rw [List.length_cons] at e
    omega
  · rintro x r acc h' ⟨hx, e, rfl, ss, rfl, hs⟩ N1 N0 hN1 hN0
    obtain ⟨i, rfl⟩ := hx x (List.mem_cons_self ..)
    refine ⟨trivial, ?_⟩
    walk_at "ev"
    refine x_take64 (by decide) (by decide) fun r1 h2 h3 => ?_
    refine ix_alpha h2 h3 fun c => hN1 _ _ ⟨fun y hy => hx y (List.mem_cons_of_mem _ hy), ?_, rfl, ss ++ [⟨#[c]⟩], ?_, ?_⟩
    · simp only [List.length_append, List.length_cons, List.length_nil] at e ⊢
      omega
    · rw [List.map_append]
      rfl
    · intro s hs'
      rcases List.mem_append.mp hs' with z | z
      · exact hs s z
      · rw [List.mem_singleton.mp z, one_len]
        exact Nat.le_refl _
  · rintro acc h' ⟨_, e, rfl, ss, rfl, hs⟩
    refine ⟨trivial, ?_⟩
    rw [List.length_map, List.length_nil, Nat.add_zero] at e
    walk_at "ev"
    refine x_take64 (by omega) (by omega) fun spot h2 h3 => ?_
    walk_at "ev"
    refine x_take64 (by decide) (by decide) fun r1 h4 h5 => ?_
    walk_at "ev"
    intro p hp
    refine ⟨by omega, by omega, ?_⟩
    refine forD_by (fun r σ g => (∀ x ∈ r, ∃ i : Nat, x = .int (i : Int) ∧ i < m) ∧ ∃ ns : List Str, ns.length + r.length = m ∧ Short 210 ns ∧ g = updD h' p (.lst (ns.map D.str)) ∧ ∃ o7 o8 o9, σ = [some (.box a), some (.int m), some (.str "abcdefghijklmnopqrstuvwxyz"), some (.lst (ss.map D.str)), some (.int spot), some (.int r1), some (.ref p), o7, o8, o9, none]) ?_ ?_ _ _ _ ⟨?_, [], ?_, fun _ z => (nomatch z), rfl, _, _, _, rfl⟩
    · rintro x r σ g ⟨hx, ns, e2, hs2, rfl, o7, o8, o9, rfl⟩ N hN
      obtain ⟨i, rfl, him⟩ := hx x (List.mem_cons_self ..)
      refine ⟨trivial, ?_⟩
      walk_at "ev"
      rw [List.length_cons] at e2
      have sz : sizeLine = 16777216 := rfl
      have fm := fmod_pos (r1 + 7 * (i : Int)) (b := 26) (by decide)
      refine ⟨mul64 (.inl (by decide)), by decide, ix_alpha fm.1 fm.2 fun c => x_cut hs (by omega) fun z1 l1 => ?_⟩
      rw [op_add_s]
      refine ⟨by rw [one_len]; omega, x_cut hs (by omega) fun z2 l2 => ?_⟩
      rw [op_add_s, Str.length_append, one_len]
      refine ⟨by omega, x_take64 (by decide) (by decide) fun r2 h6 h7 => x_q h6 h7 fun z3 l3 => ?_⟩
      rw [op_add_s, Str.length_append, Str.length_append, one_len]
      refine ⟨by omega, ?_⟩
      have done : ∀ z : Str, z.length ≤ 210 → ∀ o7 o8 o9, (lstAt (updD h' p (.lst (ns.map D.str))) (D.ref p) ∧ mtD Mt.append (.ref p) [.str z] (updD h' p (.lst (ns.map D.str))) fun _ h1 => N [some (D.box a), some (D.int ↑m), some (D.str "abcdefghijklmnopqrstuvwxyz"), some (D.lst (List.map D.str ss)), some (D.int spot), some (D.int r1), some (D.ref p), o7, o8, o9, none] h1) := fun z hz o7 o8 o9 => by
        refine app_r updD_same (by rw [List.length_map]; omega) ?_
        refine hN _ _ ⟨fun y hy => hx y (List.mem_cons_of_mem _ hy), ns ++ [z], ?_, ?_, ?_, _, _, _, rfl⟩
        · simp only [List.length_append, List.length_cons, List.length_nil]
          omega
        · intro s hs'
          rcases List.mem_append.mp hs' with w | w
          · exact hs2 s w
          · rw [List.mem_singleton.mp w]
            exact hz
        · rw [updD_upd, List.map_append]
          rfl
      have alt : ∀ o7 o8, ixD (D.str "abcdefghijklmnopqrstuvwxyz") (D.int ↑i) (updD h' p (.lst (ns.map D.str))) fun y h2 => opD Op.add LK.f (D.str "zz") y h2 fun x_5 h1 => lstAt h1 (D.ref p) ∧ mtD Mt.append (D.ref p) [x_5] h1 fun x_6 h1 => N [some (D.box a), some (D.int ↑m), some (D.str "abcdefghijklmnopqrstuvwxyz"), some (D.lst (List.map D.str ss)), some (D.int spot), some (D.int r1), some (D.ref p), o7, o8, some x_5, none] h1 := fun o7 o8 => by
        refine ix_alpha (by omega) (by omega) fun c => ?_
        rw [op_add_s]
        have e2 : (("zz" : String) : Str).length = 2 := rfl
        refine ⟨by rw [one_len, e2]; omega, done _ (by rw [Str.length_append, one_len, e2]; omega) _ _ _⟩
      rw [cmp_inn_r updD_same]
      refine ⟨rfl, all_strs _, ?_⟩
      split
      · exact alt _ _
      · refine ⟨rfl, rfl, ?_⟩
        split
        · exact alt _ _
        · exact done _ (by simp only [Str.length_append, one_len]; omega) _ _ _
    · rintro σ g ⟨_, ns, e2, hs2, rfl, o7, o8, o9, rfl⟩
      refine ⟨trivial, ?_⟩
      walk_at "ev"
      rw [List.length_nil, Nat.add_zero] at e2
      have fin : ∀ ns : List Str, ns.length = m → Short 210 ns → frzD (D.ref p) (updD h' p (.lst (ns.map D.str))) fun x h1 => biD Bi.tup LK.f [x] h1 Q := fun ns e s => by
        rw [frz_r updD_same, delD_updD hp, bi_tup_l]
        exact q ns e s
      refine x_take64 (by decide) (by decide) fun r2 h6 h7 => ?_
      walk_at "ev"
      split
      · refine x_take64 (by decide) (by decide) fun r3 h8 h9 => ?_
        have odd : ∃ z : Str, L2.atI ([D.str "ends", D.str "pa", D.str "gives", D.str "giv", D.str "x", D.str "y", D.str "r", D.str "rk"] : List D) r3 = some (.str z) ∧ z.length ≤ 210 := by
          have e : r3 = 0 ∨ r3 = 1 ∨ r3 = 2 ∨ r3 = 3 ∨ r3 = 4 ∨ r3 = 5 ∨ r3 = 6 ∨ r3 = 7 := by omega
          rcases e with rfl | rfl | rfl | rfl | rfl | rfl | rfl | rfl
          all_goals exact ⟨_, rfl, by decide⟩
        obtain ⟨z, e, lz⟩ := odd
        rw [ix_lst, e, at_some, cmp_notin_r updD_same]
        refine ⟨rfl, all_strs _, ?_⟩
        split
        · refine x_take64 (by omega) (by omega) fun r4 h10 h11 => ?_
          refine set_r updD_same h10 (by rw [List.length_map]; omega) ?_
          have e3 : (ns.map D.str).set r4.toNat (.str z) = (ns.set r4.toNat z).map D.str := by rw [List.map_set]
          rw [updD_upd, e3]
          refine fin _ (by rw [List.length_set]; exact e2) fun s hs' => ?_
          rcases List.mem_or_eq_of_mem_set hs' with w | w
          · exact hs2 s w
          · rw [w]; exact lz
        · exact fin _ e2 hs2
      · exact fin _ e2 hs2
    · intro x hx
      exact rng0_mem (by simpa using hx)
    · rw [rngL_len]
      simp
  · obtain ⟨i, e, _⟩ := rng0_mem hx
    exact ⟨i, e⟩
  · rw [rngL_len]
    simp
    omega
end U

/-! Lt: how long the text of data is. -/
namespace U
open PySem Deep
/-- depth, bulk, signs of a leaf -/
structure TM (d b B : Nat) (p : PyData) : Prop where
  sh : p.showable = true
  dp : p.depth ≤ d
  bk : p.bulk ≤ b
  lf : p.leavesShort B = true
theorem TM.mono {d b B d' b' : Nat} {p : PyData} (h : TM d b B p) (hd : d ≤ d') (hb : b ≤ b') : TM d' b' B p := ⟨h.sh, Nat.le_trans h.dp hd, Nat.le_trans h.bk hb, h.lf⟩
theorem TM.ok {d b B : Nat} {p : PyData} (h : TM d b B p) (hd : d ≤ 100) (hB : 8 ≤ B) (hz : (B + 2) * b + B ≤ 16777216) : ShowOk p := by
  refine ⟨h.sh, Nat.le_trans h.dp hd, ?_⟩
  have a := PyData.shown_le_bulk B hB p h.lf
  have m := Nat.mul_le_mul_left (B + 2) h.bk
  have sz : sizeLine = 16777216 := rfl
  omega
theorem TM.int {k B : Nat} {i : Int} (hk : 0 < k) (hk2 : k ≤ 1920) (h : i.natAbs < 2 ^ k) (hB : k + 1 ≤ B) : TM 0 0 B (.int i) := by
  have hl : i.natAbs.log2 < k := by
    by_cases h0 : i.natAbs = 0
    · rw [h0]
      simpa using hk
    · exact (Nat.log2_lt h0).mpr h
  have e : (PyData.shown (.int i)).length ≤ k + 1 := by
    show (Str.ofString (toString i)).length ≤ _
    rw [ofString_length]
    exact int_text_length_le hk hl
  refine ⟨?_, ?_, ?_, ?_⟩
  · simp only [PyData.showable, decide_eq_true_eq]
    omega
  · simp only [PyData.depth, Nat.le_refl]
  · simp only [PyData.bulk, Nat.le_refl]
  · simp only [PyData.leavesShort, decide_eq_true_eq]
    omega
theorem TM.all {d b B : Nat} : ∀ {ps : List PyData}, (∀ p ∈ ps, TM d b B p) → PyData.showableAll ps = true ∧ PyData.depthAll ps ≤ d ∧ PyData.bulkAll ps ≤ (b + 1) * ps.length ∧ PyData.leavesShortAll B ps = true
  | [], _ => ⟨by simp only [PyData.showableAll], by simp only [PyData.depthAll, Nat.zero_le], by simp only [PyData.bulkAll, Nat.zero_le], by simp only [PyData.leavesShortAll]⟩
  | p :: ps, h => by
    obtain ⟨a1, a2, a3, a4⟩ := h p (List.mem_cons_self ..)
    obtain ⟨b1, b2, b3, b4⟩ := TM.all (ps := ps) fun x hx => h x (List.mem_cons_of_mem _ hx)
    refine ⟨?_, ?_, ?_, ?_⟩
    · simp only [PyData.showableAll, a1, b1, Bool.and_self]
    · simp only [PyData.depthAll]
      omega
    · simp only [PyData.bulkAll, List.length_cons, Nat.mul_succ]
      omega
    · simp only [PyData.leavesShortAll, a4, b4, Bool.and_self]
theorem TM.list {d b B : Nat} {ps : List PyData} (h : ∀ p ∈ ps, TM d b B p) : TM (d + 1) ((b + 1) * ps.length) B (.list ps) := by
  obtain ⟨a1, a2, a3, a4⟩ := TM.all h
  refine ⟨by simpa only [PyData.showable] using a1, ?_, by simpa only [PyData.bulk] using a3, by simpa only [PyData.leavesShort] using a4⟩
  simp only [PyData.depth]
  omega
theorem TM.tuple {d b B : Nat} {ps : List PyData} (h : ∀ p ∈ ps, TM d b B p) : TM (d + 1) ((b + 1) * ps.length) B (.tuple ps) := by
  obtain ⟨a1, a2, a3, a4⟩ := TM.all h
  refine ⟨by simpa only [PyData.showable] using a1, ?_, by simpa only [PyData.bulk] using a3, by simpa only [PyData.leavesShort] using a4⟩
  simp only [PyData.depth]
  omega
theorem toPs_map {α : Type} {f : α → D} {g : α → PyData} (e : ∀ x, toP (f x) = some (g x)) : ∀ xs : List α, toPs (xs.map f) = some (xs.map g)
  | [] => by simp only [List.map_nil, toPs]
  | x :: xs => by simp only [List.map_cons, toPs, e, toPs_map e xs]
theorem topP_r {a : Addr} {xs : List D} {ps : List PyData} {h : DH} (e : h a = some (.lst xs)) (e2 : toPs xs = some ps) : topP h (.ref a) = some (.list ps) := by
  simp only [topP, e, e2]
  rfl
theorem topP_l {xs : List D} {ps : List PyData} {h : DH} (e2 : toPs xs = some ps) : topP h (.lst xs) = some (.list ps) := by
  simp only [topP, toP, e2]
  rfl
theorem topP_t {xs : List D} {ps : List PyData} {h : DH} (e2 : toPs xs = some ps) : topP h (.tup xs) = some (.tuple ps) := by
  simp only [topP, toP, e2]
  rfl
end U

/-! Lo: rows, weights. -/
namespace U
open PySem Deep
local macro_rules | `(tactic| walk_at "ev") => `(tactic| try simp only [es_nil, es_cons, es_asg, es_par, es_sub, es_exp, es_ret, es_retN, es_ite, es_for, es_brk, es_cnt, es_pas, tn_nm, tn_tp, tns_nil, tns_cons, tnsLen,
  ev_v0, ev_vs, ev_cst, ev_glb, ev_typ, ev_op, ev_neg, ev_cmp, ev_chn, ev_and, ev_or, ev_not, ev_ite, ev_tup, ev_lst, ev_ix, ev_sl, ev_call, ev_bi, ev_mt, ev_tm, isStr_s, ev_dnew, ev_dget, ev_mxd, ev_lrng, lrng_i, dnew_t, dnew_k, es_frz, fz_some, walk_dt, walk_dk, ev_frz, ev_lc, ea_nil, ea_cons, ean_nil, ean_cons, eor_nil, eor_cons, eo_non, eo_som, ec_non, ec_som, ei_ex, ei_rng, ei_enm, ei_zip, ei_rev,
  bD_bl, tn_fD, len_fD, kit_fD, walk_fD, ix_f0, ix_f1, op_add_i, op_add_s, op_add_t, op_add_l, op_sub_i, op_mul_i, op_mul_s, op_mul_l, op_fdiv_i, op_mod_i, op_pow_i, neg_i, cmp_eq, cmp_ne, eq_i, eq_s, eq_b, cmp_lt, cmp_le, cmp_gt, cmp_ge, ix_tup, ix_lst, ix_box, ix_scr, at_some, lc_nil, lc_cons, newL_f, newL_t, newL_b, len_str, len_tup, len_lst, len_scr, bi_abs, bi_max2, bi_min2, bi_int_i, bi_int_b, bi_tup_t, bi_tup_l, set_box, walk_tup, walk_lst, walk_str, rng_1, rng_2, sl_tup, sl_lst, sl_scr, wipe_nil, wipe_cons, bi_isi, kit_tup, kit_int, kit_str, kit_bl, kit_non, kit_lst, kb_tt, kb_ii, kb_ib, kb_ll, kb_it, kb_lt, kb_tl, kb_ss, w_plus_plus, w_plus_less, w_plus_times, w_plus_over, w_plus_number, w_plus_letter, w_less_plus, w_less_less, w_less_times, w_less_over, w_less_number, w_less_letter, w_times_plus, w_times_less, w_times_times, w_times_over, w_times_number, w_times_letter, w_over_plus, w_over_less, w_over_times, w_over_over, w_over_number, w_over_letter, w_number_plus, w_number_less, w_number_times, w_number_over, w_number_number, w_number_letter, w_letter_plus, w_letter_less, w_letter_times, w_letter_over, w_letter_number, w_letter_letter, in_plus, in_less, in_times, in_over, in_number, in_letter, at_0, at_1, at_2, cmp_inn_t, cmp_notin_t, flat_s, all_ss,
  startD, List.map_cons, List.map_nil, List.length_cons, List.length_nil, List.replicate, Nat.sub_self, Nat.reduceSub, List.cons_append, List.nil_append, List.append_nil, List.getElem?_cons_zero, List.getElem?_cons_succ, List.set_cons_zero, List.set_cons_succ, Nat.reduceAdd, Nat.zero_add, Nat.add_zero, decide_eq_true_eq, Bool.false_eq_true, if_false, if_true, reduceIte, Bool.not_true, Bool.not_false, Bool.not_eq_true', decide_eq_false_iff_not, ite_not, decide_true, decide_false, eq_self_iff_true, List.length_map, true_and, and_true, reduceCtorEq, Bool.true_eq_false, sizeLine_eq, Nat.reduceLeDiff])
set_option hygiene false in
local macro_rules | `(tactic| walk_at "evt") => `(tactic| simp only [es_nil, es_cons, es_asg, es_par, es_sub, es_exp, es_ret, es_retN, es_ite, es_for, es_brk, es_cnt, es_pas, tn_nm, tn_tp, tns_nil, tns_cons, tnsLen,
  ev_v0, ev_vs, ev_cst, ev_glb, ev_typ, ev_op, ev_neg, ev_cmp, ev_chn, ev_and, ev_or, ev_not, ev_ite, ev_tup, ev_lst, ev_ix, ev_sl, ev_call, ev_bi, ev_mt, ev_tm, isStr_s, ev_dnew, ev_dget, ev_mxd, ev_lrng, lrng_i, dnew_t, dnew_k, es_frz, fz_some, walk_dt, walk_dk, ev_frz, ev_lc, ea_nil, ea_cons, ean_nil, ean_cons, eor_nil, eor_cons, eo_non, eo_som, ec_non, ec_som, ei_ex, ei_rng, ei_enm, ei_zip, ei_rev,
  bD_bl, tn_fD, len_fD, kit_fD, walk_fD, ix_f0, ix_f1, op_add_i, op_add_s, op_add_t, op_add_l, op_sub_i, op_mul_i, op_mul_s, op_mul_l, op_fdiv_i, op_mod_i, op_pow_i, neg_i, cmp_eq, cmp_ne, eq_i, eq_s, eq_b, cmp_lt, cmp_le, cmp_gt, cmp_ge, ix_tup, ix_lst, ix_box, ix_scr, at_some, lc_nil, lc_cons, newL_f, newL_t, newL_b, len_str, len_tup, len_lst, len_scr, bi_abs, bi_max2, bi_min2, bi_int_i, bi_int_b, bi_tup_t, bi_tup_l, set_box, walk_tup, walk_lst, walk_str, rng_1, rng_2, sl_tup, sl_lst, sl_scr, wipe_nil, wipe_cons, bi_isi, kit_tup, kit_int, kit_str, kit_bl, kit_non, kit_lst, kb_tt, kb_ii, kb_ib, kb_ll, kb_it, kb_lt, kb_tl, kb_ss, w_plus_plus, w_plus_less, w_plus_times, w_plus_over, w_plus_number, w_plus_letter, w_less_plus, w_less_less, w_less_times, w_less_over, w_less_number, w_less_letter, w_times_plus, w_times_less, w_times_times, w_times_over, w_times_number, w_times_letter, w_over_plus, w_over_less, w_over_times, w_over_over, w_over_number, w_over_letter, w_number_plus, w_number_less, w_number_times, w_number_over, w_number_number, w_number_letter, w_letter_plus, w_letter_less, w_letter_times, w_letter_over, w_letter_number, w_letter_letter, in_plus, in_less, in_times, in_over, in_number, in_letter, at_0, at_1, at_2, cmp_inn_t, cmp_notin_t, flat_s, all_ss,
  startD, List.map_cons, List.map_nil, List.length_cons, List.length_nil, List.replicate, Nat.sub_self, Nat.reduceSub, List.cons_append, List.nil_append, List.append_nil, List.getElem?_cons_zero, List.getElem?_cons_succ, List.set_cons_zero, List.set_cons_succ, Nat.reduceAdd, Nat.zero_add, Nat.add_zero, decide_eq_true_eq, Bool.false_eq_true, if_false, if_true, reduceIte, Bool.not_true, Bool.not_false, Bool.not_eq_true', decide_eq_false_iff_not, ite_not, decide_true, decide_false, eq_self_iff_true, List.length_map, true_and, and_true, reduceCtorEq, Bool.true_eq_false, sizeLine_eq, Nat.reduceLeDiff] at tl)
theorem pD_lit (a b : Int) : True := trivial
inductive W4 | plus | less | times | over
  deriving DecidableEq
def W4.s : W4 → Str
  | .plus => "plus"
  | .less => "less"
  | .times => "times"
  | .over => "over"
inductive Rw
  | num (q : Rat)
  | lett (i : Nat)
  | bin (w : W4) (i j : Nat)
def rwD : Rw → D
  | .num q => .tup [.str "number", fD q]
  | .lett i => .tup [.str "letter", .int (i : Int)]
  | .bin w i j => .tup [.str w.s, .int (i : Int), .int (j : Int)]
theorem rwD_lett {i : Int} (h : 0 ≤ i) : rwD (.lett i.toNat) = .tup [.str "letter", .int i] := by
  show D.tup [.str "letter", .int (i.toNat : Int)] = _
  rw [Int.toNat_of_nonneg h]
theorem rwD_bin {w : W4} {i j : Int} (h : 0 ≤ i) (h2 : 0 ≤ j) : rwD (.bin w i.toNat j.toNat) = .tup [.str w.s, .int i, .int j] := by
  show D.tup [.str w.s, .int (i.toNat : Int), .int (j.toNat : Int)] = _
  rw [Int.toNat_of_nonneg h, Int.toNat_of_nonneg h2]
/-- behind n rows, over m letters -/
def RwOk (n m : Nat) : Rw → Prop
  | .num q => RB q 21
  | .lett i => i < m
  | .bin _ i j => i < n ∧ j < n
def RwsOk (m : Nat) (rs : List Rw) : Prop := ∀ (i : Nat) (r : Rw), rs[i]? = some r → RwOk i m r
theorem RwsOk.nil {m : Nat} : RwsOk m [] := fun i r h => by simp at h
theorem RwsOk.snoc {m : Nat} {rs : List Rw} {r : Rw} (h : RwsOk m rs) (hr : RwOk rs.length m r) : RwsOk m (rs ++ [r]) := fun i x e => by
  by_cases hi : i < rs.length
  · rw [List.getElem?_append_left hi] at e
    exact h i x e
  · rw [List.getElem?_append_right (by omega)] at e
    have : i - rs.length = 0 := by
      by_cases z : i - rs.length = 0
      · exact z
      · rw [List.getElem?_eq_none (by simp; omega)] at e
        cases e
    rw [this] at e
    cases e
    have : i = rs.length := by omega
    rw [this]
    exact hr
theorem RwsOk.take {m : Nat} {rs : List Rw} (h : RwsOk m rs) (n : Nat) : RwsOk m (rs.take n) := fun i x e => by
  rw [List.getElem?_take] at e
  split at e
  · exact h i x e
  · cases e
def pD (p : Int × Int) : D := .tup [.int p.1, .int p.2]
def wtOf (ws : List (Int × Int)) : Rw → Int × Int
  | .num _ => (1, 0)
  | .lett _ => (1, 0)
  | .bin w i j => match w with
    | .times => ((ws.getD i (0, 0)).1 + (ws.getD j (0, 0)).1, (ws.getD i (0, 0)).2 + (ws.getD j (0, 0)).2)
    | .over => ((ws.getD i (0, 0)).1 + (ws.getD j (0, 0)).2, (ws.getD i (0, 0)).2 + (ws.getD j (0, 0)).1)
    | _ => (if (ws.getD j (0, 0)).1 + (ws.getD i (0, 0)).2 > (ws.getD i (0, 0)).1 + (ws.getD j (0, 0)).2 then (ws.getD j (0, 0)).1 + (ws.getD i (0, 0)).2 else (ws.getD i (0, 0)).1 + (ws.getD j (0, 0)).2, (ws.getD i (0, 0)).2 + (ws.getD j (0, 0)).2)
def wts (rs : List Rw) : List (Int × Int) := rs.foldl (fun ws r => ws ++ [wtOf ws r]) []
theorem wts_snoc (rs : List Rw) (r : Rw) : wts (rs ++ [r]) = wts rs ++ [wtOf (wts rs) r] := by simp [wts]
theorem wts_len (rs : List Rw) : (wts rs).length = rs.length := by
  have gen : ∀ (rs : List Rw) (a : List (Int × Int)), (rs.foldl (fun ws r => ws ++ [wtOf ws r]) a).length = a.length + rs.length := by
    intro rs
    induction rs with
    | nil => intro a; simp
    | cons r rs ih => intro a; rw [List.foldl_cons, ih]; simp; omega
  rw [wts, gen]
  simp
theorem at_pD {ws : List (Int × Int)} {i : Nat} (hi : i < ws.length) : L2.atI (ws.map pD) (i : Int) = some (pD (ws.getD i (0, 0))) := by
  rw [atI_of_nat (by simpa using hi), List.getElem?_map, List.getElem?_eq_getElem hi, List.getD_eq_getElem?_getD, List.getElem?_eq_getElem hi]
  rfl
section
variable {L : String → Option Df} {k m : Nat} {p : Addr} {r : Rw} {ws : List (Int × Int)} {h : DH} {Q : DQ} {E : XQ}
theorem x_weight_of (e : h p = some (.lst (ws.map pD))) (hr : RwOk ws.length m r) (q : Q (pD (wtOf ws r)) h) : callD (tabOf L) (k + 1) "weight_of" [rwD r, .ref p] h Q E := by
  refine call_of c_weight_of rfl rfl ?_
  unfold c_weight_of
  cases r with
  | num z =>
    unfold rwD
    walk_at "ev"
    exact q
  | lett i =>
    unfold rwD
    walk_at "ev"
    exact q
  | bin w i j =>
    unfold rwD
    have e1 := at_pD hr.1
    have e2 := at_pD hr.2
    cases w
    all_goals
      unfold W4.s
      walk_at "ev"
      rw [ix_ref e, e1]
      unfold pD
      walk_at "ev"
      rw [ix_ref e, e2]
      unfold pD
      walk_at "ev"
      exact q
theorem x_law_weight (e : h p = some (.lst (ws.map pD))) (hr : RwOk ws.length m r) (q : Q (pD (wtOf ws r)) h) : callD (tabOf L) (k + 1) "_law_weight" [rwD r, .ref p] h Q E := by
  refine call_of c__law_weight rfl rfl ?_
  unfold c__law_weight
  cases r with
  | num z =>
    unfold rwD
    walk_at "ev"
    exact q
  | lett i =>
    unfold rwD
    walk_at "ev"
    exact q
  | bin w i j =>
    unfold rwD
    have e1 := at_pD hr.1
    have e2 := at_pD hr.2
    cases w
    all_goals
      unfold W4.s
      walk_at "ev"
      rw [ix_ref e, e1]
      unfold pD
      walk_at "ev"
      rw [ix_ref e, e2]
      unfold pD
      walk_at "ev"
      exact q
theorem x_weights {rs : List Rw} {x : D} (hr : RwsOk m rs) (hz : rs.length ≤ 1000) (q : ∀ p, h p = none → Q (.ref p) (updD h p (.lst ((wts rs).map pD)))) : callD (tabOf L) (k + 2) "weights" [.tup [x, .tup (rs.map rwD)]] h Q E := by
  refine call_of c_weights rfl rfl ?_
  unfold c_weights
  walk_at "ev"
  intro p hp
  refine forD_by (fun r σ g => ∃ (a b : List Rw), a ++ b = rs ∧ r = b.map rwD ∧ g = updD h p (.lst ((wts a).map pD)) ∧ ∃ o, σ = [some (.tup [x, .tup (rs.map rwD)]), some (.ref p), o]) ?_ ?_ _ _ _ ⟨[], rs, rfl, rfl, rfl, _, rfl⟩
  · rintro d r σ g ⟨a, b, e, e2, rfl, o, rfl⟩ N hN
    cases b with
    | nil => cases e2
    | cons y b =>
      cases e2
      refine ⟨trivial, ?_⟩
      have hy : RwOk (wts a).length m y := by
        rw [wts_len]
        refine hr _ _ ?_
        rw [← e, List.getElem?_append_right (Nat.le_refl _)]
        simp
      have hl : a.length < 1000 := by
        rw [← e, List.length_append, List.length_cons] at hz
        omega
      have ll : lstAt (updD h p (.lst ((wts a).map pD))) (.ref p) := by simp only [lstAt, updD_same]
      walk_at "ev"
      refine ⟨ll, x_weight_of updD_same hy ?_⟩
      have sz : sizeLine = 16777216 := rfl
      refine (app_r updD_same (by rw [List.length_map, wts_len]; omega) ?_).2
      refine hN _ _ ⟨a ++ [y], b, by simpa using e, rfl, ?_, _, rfl⟩
      rw [updD_upd, wts_snoc, List.map_append]
      rfl
  · rintro σ g ⟨a, b, e, e2, rfl, o, rfl⟩
    refine ⟨trivial, ?_⟩
    walk_at "ev"
    have : b = [] := List.map_eq_nil_iff.mp e2.symm
    subst this
    rw [List.append_nil] at e
    subst e
    exact q p hp
end
end U

/-! Lp: polynomials as pairs of powers and fractions. -/
namespace U
open PySem Deep
local macro_rules | `(tactic| walk_at "ev") => `(tactic| try simp only [es_nil, es_cons, es_asg, es_par, es_sub, es_exp, es_ret, es_retN, es_ite, es_for, es_brk, es_cnt, es_pas, tn_nm, tn_tp, tns_nil, tns_cons, tnsLen,
  ev_v0, ev_vs, ev_cst, ev_glb, ev_typ, ev_op, ev_neg, ev_cmp, ev_chn, ev_and, ev_or, ev_not, ev_ite, ev_tup, ev_lst, ev_ix, ev_sl, ev_call, ev_bi, ev_mt, ev_tm, isStr_s, ev_dnew, ev_dget, ev_mxd, ev_lrng, lrng_i, dnew_t, dnew_k, es_frz, fz_some, walk_dt, walk_dk, ev_frz, ev_lc, ea_nil, ea_cons, ean_nil, ean_cons, eor_nil, eor_cons, eo_non, eo_som, ec_non, ec_som, ei_ex, ei_rng, ei_enm, ei_zip, ei_rev,
  bD_bl, tn_fD, len_fD, kit_fD, walk_fD, ix_f0, ix_f1, op_add_i, op_add_s, op_add_t, op_add_l, op_sub_i, op_mul_i, op_mul_s, op_mul_l, op_fdiv_i, op_mod_i, op_pow_i, neg_i, cmp_eq, cmp_ne, eq_i, eq_s, eq_b, cmp_lt, cmp_le, cmp_gt, cmp_ge, ix_tup, ix_lst, ix_box, ix_scr, at_some, lc_nil, lc_cons, newL_f, newL_t, newL_b, len_str, len_tup, len_lst, len_scr, bi_abs, bi_max2, bi_min2, bi_int_i, bi_int_b, bi_tup_t, bi_tup_l, set_box, walk_tup, walk_lst, walk_str, rng_1, rng_2, sl_tup, sl_lst, sl_scr, wipe_nil, wipe_cons, bi_isi, kit_tup, kit_int, kit_str, kit_bl, kit_non, kit_lst, kb_tt, kb_ii, kb_ib, kb_ll, kb_it, kb_lt, kb_tl, kb_ss, w_plus_plus, w_plus_less, w_plus_times, w_plus_over, w_plus_number, w_plus_letter, w_less_plus, w_less_less, w_less_times, w_less_over, w_less_number, w_less_letter, w_times_plus, w_times_less, w_times_times, w_times_over, w_times_number, w_times_letter, w_over_plus, w_over_less, w_over_times, w_over_over, w_over_number, w_over_letter, w_number_plus, w_number_less, w_number_times, w_number_over, w_number_number, w_number_letter, w_letter_plus, w_letter_less, w_letter_times, w_letter_over, w_letter_number, w_letter_letter, in_plus, in_less, in_times, in_over, in_number, in_letter, at_0, at_1, at_2, cmp_inn_t, cmp_notin_t, flat_s, all_ss,
  startD, List.map_cons, List.map_nil, List.length_cons, List.length_nil, List.replicate, Nat.sub_self, Nat.reduceSub, List.cons_append, List.nil_append, List.append_nil, List.getElem?_cons_zero, List.getElem?_cons_succ, List.set_cons_zero, List.set_cons_succ, Nat.reduceAdd, Nat.zero_add, Nat.add_zero, decide_eq_true_eq, Bool.false_eq_true, if_false, if_true, reduceIte, Bool.not_true, Bool.not_false, Bool.not_eq_true', decide_eq_false_iff_not, ite_not, decide_true, decide_false, eq_self_iff_true, List.length_map, true_and, and_true, reduceCtorEq, Bool.true_eq_false, sizeLine_eq, Nat.reduceLeDiff])
set_option hygiene false in
local macro_rules | `(tactic| walk_at "evt") => `(tactic| simp only [es_nil, es_cons, es_asg, es_par, es_sub, es_exp, es_ret, es_retN, es_ite, es_for, es_brk, es_cnt, es_pas, tn_nm, tn_tp, tns_nil, tns_cons, tnsLen,
  ev_v0, ev_vs, ev_cst, ev_glb, ev_typ, ev_op, ev_neg, ev_cmp, ev_chn, ev_and, ev_or, ev_not, ev_ite, ev_tup, ev_lst, ev_ix, ev_sl, ev_call, ev_bi, ev_mt, ev_tm, isStr_s, ev_dnew, ev_dget, ev_mxd, ev_lrng, lrng_i, dnew_t, dnew_k, es_frz, fz_some, walk_dt, walk_dk, ev_frz, ev_lc, ea_nil, ea_cons, ean_nil, ean_cons, eor_nil, eor_cons, eo_non, eo_som, ec_non, ec_som, ei_ex, ei_rng, ei_enm, ei_zip, ei_rev,
  bD_bl, tn_fD, len_fD, kit_fD, walk_fD, ix_f0, ix_f1, op_add_i, op_add_s, op_add_t, op_add_l, op_sub_i, op_mul_i, op_mul_s, op_mul_l, op_fdiv_i, op_mod_i, op_pow_i, neg_i, cmp_eq, cmp_ne, eq_i, eq_s, eq_b, cmp_lt, cmp_le, cmp_gt, cmp_ge, ix_tup, ix_lst, ix_box, ix_scr, at_some, lc_nil, lc_cons, newL_f, newL_t, newL_b, len_str, len_tup, len_lst, len_scr, bi_abs, bi_max2, bi_min2, bi_int_i, bi_int_b, bi_tup_t, bi_tup_l, set_box, walk_tup, walk_lst, walk_str, rng_1, rng_2, sl_tup, sl_lst, sl_scr, wipe_nil, wipe_cons, bi_isi, kit_tup, kit_int, kit_str, kit_bl, kit_non, kit_lst, kb_tt, kb_ii, kb_ib, kb_ll, kb_it, kb_lt, kb_tl, kb_ss, w_plus_plus, w_plus_less, w_plus_times, w_plus_over, w_plus_number, w_plus_letter, w_less_plus, w_less_less, w_less_times, w_less_over, w_less_number, w_less_letter, w_times_plus, w_times_less, w_times_times, w_times_over, w_times_number, w_times_letter, w_over_plus, w_over_less, w_over_times, w_over_over, w_over_number, w_over_letter, w_number_plus, w_number_less, w_number_times, w_number_over, w_number_number, w_number_letter, w_letter_plus, w_letter_less, w_letter_times, w_letter_over, w_letter_number, w_letter_letter, in_plus, in_less, in_times, in_over, in_number, in_letter, at_0, at_1, at_2, cmp_inn_t, cmp_notin_t, flat_s, all_ss,
  startD, List.map_cons, List.map_nil, List.length_cons, List.length_nil, List.replicate, Nat.sub_self, Nat.reduceSub, List.cons_append, List.nil_append, List.append_nil, List.getElem?_cons_zero, List.getElem?_cons_succ, List.set_cons_zero, List.set_cons_succ, Nat.reduceAdd, Nat.zero_add, Nat.add_zero, decide_eq_true_eq, Bool.false_eq_true, if_false, if_true, reduceIte, Bool.not_true, Bool.not_false, Bool.not_eq_true', decide_eq_false_iff_not, ite_not, decide_true, decide_false, eq_self_iff_true, List.length_map, true_and, and_true, reduceCtorEq, Bool.true_eq_false, sizeLine_eq, Nat.reduceLeDiff] at tl)
theorem lp0 : True := trivial
abbrev Pol := List (List Int × Rat)
def pwD (ps : List Int) : D := .tup (ps.map D.int)
def prD (t : List Int × Rat) : D := .tup [pwD t.1, fD t.2]
/-- as the program tells it -/
def ptD (p : Pol) : D := .tup (p.map prD)
def pwK (ps : List Int) : NKey := .tup (ps.map .num)
def pkK (p : Pol) : List (NKey × D) := p.map fun t => (pwK t.1, fD t.2)
/-- as a dict -/
def pdD (p : Pol) : D := dtD (pkK p)
theorem keyDs_num : ∀ ps : List Int, keyDs (ps.map .num) = ps.map D.int
  | [] => by simp only [List.map_nil, keyDs]
  | n :: ps => by simp only [List.map_cons, keyDs, keyD, keyDs_num ps]
theorem keyD_pw (ps : List Int) : keyD (pwK ps) = pwD ps := by
  simp only [pwK, keyD, keyDs_num]
  rfl
theorem dKey_pw (ps : List Int) : dKey (pwD ps) = some (pwK ps) := by rw [← keyD_pw, dKey_keyD]
theorem pwK_inj {a b : List Int} (h : pwK a = pwK b) : a = b := by
  have e : pwD a = pwD b := by rw [← keyD_pw, ← keyD_pw, h]
  simp only [pwD, D.tup.injEq] at e
  exact List.map_inj_right (fun x y z => D.int.inj z) |>.mp e
theorem depth_num : ∀ ps : List Int, NestedKey.depthAll (ps.map .num) = 0
  | [] => by simp only [List.map_nil, NestedKey.depthAll]
  | n :: ps => by simp only [List.map_cons, NestedKey.depthAll, NestedKey.depth, depth_num ps, Nat.max_self]
theorem keyOk_pw (ps : List Int) : keyOk (pwK ps) := ⟨by simp only [pwK, NestedKey.depth, depth_num]; omega, _, rfl⟩
theorem intsD_map : ∀ ns : List Int, intsD (ns.map D.int) = some ns
  | [] => rfl
  | n :: ns => by simp only [List.map_cons, intsD, intsD_map ns, Option.map_some]
theorem sum_t {m : LK} {ns : List Int} {h : DH} {Q : DQ} : biD .sum m [.tup (ns.map D.int)] h Q = Q (.int ns.sum) h := by simp only [biD, asS, intsD_map]
theorem sum_l {m : LK} {ns : List Int} {h : DH} {Q : DQ} : biD .sum m [.lst (ns.map D.int)] h Q = Q (.int ns.sum) h := by simp only [biD, asS, asR, asL, intsD_map]
theorem walk_pd {p : Pol} {h : DH} {R : List D → (DH → Prop) → Prop} : walkD (pdD p) h R = R (p.map fun t => pwD t.1) fun _ => True := by
  unfold pdD
  rw [walk_dt]
  congr 1
  unfold pkK
  rw [List.map_map]
  apply List.map_congr_left
  intro t _
  exact keyD_pw t.1
/-- what stands at powers -/
def coef (p : Pol) (ps : List Int) : Option Rat := (p.find? fun t => decide (t.1 = ps)).map (·.2)
theorem valK_pk (ps : List Int) : ∀ p : Pol, valK (pkK p) (pwK ps) = (coef p ps).map fD
  | [] => rfl
  | t :: p => by
    have ih := valK_pk ps p
    by_cases e : t.1 = ps
    · have e2 : pwK t.1 = pwK ps := by rw [e]
      simp [valK, coef, pkK, List.find?_cons, e, e2]
    · have e2 : ¬ pwK t.1 = pwK ps := fun z => e (pwK_inj z)
      simp only [valK, coef, pkK, List.map_cons, List.find?_cons, e, e2, decide_false] at ih ⊢
      exact ih
/-- a pair put in its place -/
def putP (p : Pol) (ps : List Int) (q : Rat) : Pol := if (coef p ps).isSome then p.map fun t => if t.1 = ps then (t.1, q) else t else p ++ [(ps, q)]
theorem putD_pk (p : Pol) (ps : List Int) (q : Rat) : putD (pkK p) (pwK ps) (fD q) = pkK (putP p ps q) := by
  unfold putD putP
  rw [valK_pk, Option.isSome_map]
  split
  · unfold pkK
    rw [List.map_map, List.map_map]
    apply List.map_congr_left
    intro t _
    simp only [Function.comp]
    by_cases e : t.1 = ps
    · rw [if_pos (by rw [e]), if_pos e]
    · rw [if_neg (fun z => e (pwK_inj z)), if_neg e]
  · unfold pkK
    rw [List.map_append]
    rfl
theorem putP_len (p : Pol) (ps : List Int) (q : Rat) : (putP p ps q).length ≤ p.length + 1 := by
  unfold putP
  split
  · rw [List.length_map]; omega
  · rw [List.length_append, List.length_singleton]; omega
theorem putP_mem {p : Pol} {ps : List Int} {q : Rat} {t : List Int × Rat} (h : t ∈ putP p ps q) : t ∈ p ∨ t = (ps, q) := by
  unfold putP at h
  split at h
  · obtain ⟨u, hu, rfl⟩ := List.mem_map.mp h
    split
    · rename_i e
      right
      rw [e]
    · exact .inl hu
  · rcases List.mem_append.mp h with h | h
    · exact .inl h
    · exact .inr (List.mem_singleton.mp h)
/-! ### as data -/
def pwP (ps : List Int) : PyData := .tuple (ps.map .int)
def fP (q : Rat) : PyData := .tuple [.int q.num, .int q.den]
def prP (t : List Int × Rat) : PyData := .tuple [pwP t.1, fP t.2]
theorem toPs_ints : ∀ ps : List Int, toPs (ps.map D.int) = some (ps.map .int) := toPs_map fun _ => by simp only [toP]
theorem toP_pw (ps : List Int) : toP (pwD ps) = some (pwP ps) := by
  simp only [pwD, toP, toPs_ints, Option.map_some]
  rfl
theorem toP_fD (q : Rat) : toP (fD q) = some (fP q) := by
  simp only [fD, toP, toPs, Option.map_some]
  rfl
theorem toP_pr (t : List Int × Rat) : toP (prD t) = some (prP t) := by
  simp only [prD, toP, toPs, toP_pw, toP_fD, Option.map_some]
  rfl
theorem alike_ii : ∀ a b : List Int, PySem.W.alikeAll (a.map .int) (b.map .int) = true := PySem.W.alike_ints
theorem alike_pr (a b : List Int × Rat) : PySem.W.alike (prP a) (prP b) = true := by
  simp only [prP, pwP, fP, PySem.W.alike, PySem.W.alikeAll, alike_ii, Bool.and_self]
theorem depth_pr (t : List Int × Rat) : (prP t).depth ≤ 100 := by
  simp only [prP, pwP, fP, PyData.depth, PyData.depthAll, depth_all]
  omega
theorem sortOk_pr (p : Pol) (hz : p.length ≤ 1000000) : SortOk (p.map prP) := by
  refine ⟨fun x hx y hy => ?_, .inl fun x hx => ?_, ?_, fun x hx => ?_⟩
  · obtain ⟨a, _, rfl⟩ := List.mem_map.mp hx
    obtain ⟨b, _, rfl⟩ := List.mem_map.mp hy
    exact alike_pr a b
  · obtain ⟨a, _, rfl⟩ := List.mem_map.mp hx
    exact ⟨_, _, rfl⟩
  · have sz : sizeLine = 16777216 := rfl
    rw [List.length_map]
    omega
  · obtain ⟨a, _, rfl⟩ := List.mem_map.mp hx
    exact depth_pr a
/-- the pairs sorted -/
def srt (p : Pol) : Pol := p.mergeSort (PySem.W.dataLe false prP)
theorem srt_perm (p : Pol) : (srt p).Perm p := List.mergeSort_perm p _
theorem sortDP_pr (p : Pol) : sortDP (p.map prD) (p.map prP) = (srt p).map prD := by
  unfold sortDP srt
  have e : (p.map prD).zip (p.map prP) = p.map fun t => (prD t, prP t) := by
    induction p with
    | nil => rfl
    | cons t p ih => simp only [List.map_cons, List.zip_cons_cons, ih]
  rw [e, ← List.map_mergeSort (r := PySem.W.dataLe false prP) (s := PySem.W.dataLe false fun t : D × PyData => t.2) (f := fun t => (prD t, prP t)) (l := p) (fun _ _ _ _ => rfl), List.map_map]
  rfl
/-- the greatest sum of powers -/
def degP (p : Pol) : Int := match p.map fun t => t.1.sum with
  | [] => -1
  | n :: r => r.foldl max n
def pieceP (p : Pol) (k : Int) : Pol := p.filter fun t => decide (t.1.sum = k)
theorem mxd_l {ns : List Int} {z : D} {h : DH} {Q : DQ} : mxdD (.lst (ns.map D.int)) z h Q = (match ns with
  | [] => Q z h
  | n :: r => Q (.int (r.foldl max n)) h) := by
  simp only [mxdD, asL, intsD_map]
  cases ns <;> rfl
/-- which pairs a piece takes -/
def pcF (i : Int) (x : D) : Option D := match x with
  | .tup [.tup xs, _] => match intsD xs with
    | some ns => if ns.sum = i then some x else none
    | none => none
  | _ => none
theorem pcF_pr (i : Int) (t : List Int × Rat) : pcF i (prD t) = if t.1.sum = i then some (prD t) else none := by
  simp only [prD, pwD, pcF, intsD_map]
theorem pcF_map (i : Int) : ∀ p : Pol, (p.map prD).filterMap (pcF i) = (pieceP p i).map prD
  | [] => rfl
  | t :: p => by
    have ih := pcF_map i p
    unfold pieceP at ih ⊢
    rw [List.map_cons, List.filterMap_cons, pcF_pr]
    by_cases e : t.1.sum = i
    · rw [if_pos e, List.filter_cons, if_pos (by simp [e])]
      simp only [List.map_cons]
      rw [ih]
    · rw [if_neg e, List.filter_cons, if_neg (by simp [e])]
      exact ih
section
variable {L : String → Option Df} {k : Nat} {h : DH} {Q : DQ} {E : XQ}
theorem x_degree {p : Pol} (hz : p.length ≤ 1000000) (q : Q (.int (degP p)) h) : callD (tabOf L) (k + 1) "degree" [ptD p] h Q E := by
  refine call_of c_degree rfl rfl ?_
  unfold c_degree ptD
  walk_at "ev"
  have sz : sizeLine = 16777216 := rfl
  refine lcD_pure (fun x => match x with
    | .tup [.tup xs, _] => (intsD xs).map fun ns => D.int ns.sum
    | _ => none) trivial _ _ (fun x hx K1 K0 hK => ?_) (by rw [List.length_map, List.length_nil]; omega) ?_
  · obtain ⟨t, ht, rfl⟩ := List.mem_map.mp hx
    simp only [prD, pwD, intsD_map, Option.map_some] at hK
    unfold prD pwD
    walk_at "ev"
    rw [sum_t]
    exact hK
  · have e : (p.map prD).filterMap (fun x => match x with
        | .tup [.tup xs, _] => (intsD xs).map fun ns => D.int ns.sum
        | _ => none) = (p.map fun t => t.1.sum).map D.int := by
      rw [List.filterMap_map, List.map_map, ← List.filterMap_eq_map]
      congr 1
      funext t
      simp only [Function.comp, prD, pwD, intsD_map, Option.map_some]
    rw [e]
    walk_at "ev"
    rw [mxd_l]
    unfold degP at q
    split
    · rename_i e2
      rw [e2] at q
      exact q
    · rename_i n r e2
      rw [e2] at q
      exact q
theorem x_piece {p : Pol} {i : Int} (hz : p.length ≤ 1000000) (q : Q (ptD (pieceP p i)) h) : callD (tabOf L) (k + 1) "piece" [ptD p, .int i] h Q E := by
  refine call_of c_piece rfl rfl ?_
  unfold c_piece ptD
  walk_at "ev"
  have sz : sizeLine = 16777216 := rfl
  refine lcD_pure (pcF i) trivial _ _ (fun x hx K1 K0 hK => ?_) (by rw [List.length_map, List.length_nil]; omega) ?_
  · obtain ⟨t, ht, rfl⟩ := List.mem_map.mp hx
    rw [pcF_pr] at hK
    have e0 : prD t = .tup [pwD t.1, fD t.2] := rfl
    rw [e0] at hK ⊢
    walk_at "ev"
    unfold pwD at hK ⊢
    rw [sum_t]
    walk_at "ev"
    split
    · rename_i e
      rw [if_pos e] at hK
      exact hK
    · rename_i e
      rw [if_neg e] at hK
      exact hK
  · rw [pcF_map]
    walk_at "ev"
    exact q
/-- powers of m letters, from 0 on, below top; numbers that aren't nought -/
structure PolOk (m : Nat) (top : Int) (b : Nat) (p : Pol) : Prop where
  nd : (p.map fun t => t.1).Nodup
  ln : ∀ t ∈ p, t.1.length = m
  pw : ∀ t ∈ p, ∀ n ∈ t.1, 0 ≤ n ∧ n < top
  nz : ∀ t ∈ p, t.2 ≠ 0
  cf : ∀ t ∈ p, RB t.2 b
theorem PolOk.nil {m : Nat} {top : Int} {b : Nat} : PolOk m top b [] := ⟨by simp, fun _ z => (nomatch z), fun _ z => (nomatch z), fun _ z => (nomatch z), fun _ z => (nomatch z)⟩
theorem coef_none {p : Pol} {ps : List Int} (h : ¬ (coef p ps).isSome = true) : ps ∉ p.map fun t => t.1 := fun hm => by
  obtain ⟨x, hx, rfl⟩ := List.mem_map.mp hm
  apply h
  unfold coef
  rw [Option.isSome_map, List.find?_isSome]
  exact ⟨x, hx, by simp⟩
theorem putP_keys (p : Pol) (ps : List Int) (q : Rat) (h : (p.map fun t => t.1).Nodup) : ((putP p ps q).map fun t => t.1).Nodup := by
  unfold putP
  split
  · rw [List.map_map]
    have e : ((fun x : List Int × Rat => x.1) ∘ fun t => if t.1 = ps then (t.1, q) else t) = fun x => x.1 := by
      funext x
      simp only [Function.comp]
      split <;> rfl
    rw [e]
    exact h
  · rename_i hn
    rw [List.map_append, List.nodup_append]
    refine ⟨h, by simp, fun x hx y hy e => ?_⟩
    simp only [List.map_cons, List.map_nil, List.mem_singleton] at hy
    subst hy e
    exact coef_none hn hx
theorem PolOk.put {m : Nat} {top : Int} {b : Nat} {p : Pol} {ps : List Int} {q : Rat} (h : PolOk m top b p) (h1 : ps.length = m) (h2 : ∀ n ∈ ps, 0 ≤ n ∧ n < top) (h3 : q ≠ 0) (h4 : RB q b) : PolOk m top b (putP p ps q) := by
  refine ⟨putP_keys p ps q h.nd, fun t ht => ?_, fun t ht => ?_, fun t ht => ?_, fun t ht => ?_⟩
  · rcases putP_mem ht with h' | rfl
    · exact h.ln t h'
    · exact h1
  · rcases putP_mem ht with h' | rfl
    · exact h.pw t h'
    · exact h2
  · rcases putP_mem ht with h' | rfl
    · exact h.nz t h'
    · exact h3
  · rcases putP_mem ht with h' | rfl
    · exact h.cf t h'
    · exact h4
theorem coef_of_mem : ∀ {p : Pol} {t : List Int × Rat}, (p.map fun t => t.1).Nodup → t ∈ p → coef p t.1 = some t.2
  | u :: p, t, nd, h => by
    rw [List.map_cons, List.nodup_cons] at nd
    rcases List.mem_cons.mp h with rfl | h
    · simp [coef, List.find?_cons]
    · have ne : ¬ u.1 = t.1 := fun z => nd.1 (by rw [z]; exact List.mem_map_of_mem h)
      have ih := coef_of_mem nd.2 h
      simp only [coef, List.find?_cons, ne, decide_false] at ih ⊢
      exact ih
theorem filterMap_all {α β γ : Type} {g : α → β} {f : β → Option γ} {e : α → γ} : ∀ {xs : List α}, (∀ x ∈ xs, f (g x) = some (e x)) → (xs.map g).filterMap f = xs.map e
  | [], _ => rfl
  | x :: xs, h => by
    rw [List.map_cons, List.filterMap_cons, h x (List.mem_cons_self ..)]
    simp only [List.map_cons]
    rw [filterMap_all fun y hy => h y (List.mem_cons_of_mem _ hy)]
theorem bi_sorted {m : LK} {xs : List D} {ps : List PyData} (e : toPs xs = some ps) : biD .sorted m [.lst xs] h Q = (SortOk ps ∧ newL m (sortDP xs ps) h Q) := by simp only [biD, asL, e]
theorem x_poly_told {m : Nat} {top : Int} {b : Nat} {p : Pol} (hp : PolOk m top b p) (hz : p.length ≤ 1000000) (q : Q (ptD (srt p)) h) : callD (tabOf L) (k + 1) "_law_poly_told" [pdD p] h Q E := by
  refine call_of c__law_poly_told rfl rfl ?_
  unfold c__law_poly_told
  walk_at "ev"
  rw [walk_pd]
  have sz : sizeLine = 16777216 := rfl
  refine lcD_pure (fun x => match dKey x with
    | some k => (valK (pkK p) k).map fun d => D.tup [x, d]
    | none => none) trivial _ _ (fun x hx K1 K0 hK => ?_) (by rw [List.length_map, List.length_nil]; omega) ?_
  · obtain ⟨t, ht, rfl⟩ := List.mem_map.mp hx
    have ec : valK (pkK p) (pwK t.1) = some (fD t.2) := by rw [valK_pk, coef_of_mem hp.nd ht]; rfl
    simp only [dKey_pw, ec, Option.map_some] at hK
    walk_at "ev"
    unfold pdD
    rw [ix_dt]
    exact dget_dt (dKey_pw _) (keyOk_pw _) ec hK
  · rw [filterMap_all (e := prD) fun t ht => by
      have ec : valK (pkK p) (pwK t.1) = some (fD t.2) := by rw [valK_pk, coef_of_mem hp.nd ht]; rfl
      simp only [dKey_pw, ec, Option.map_some]
      rfl]
    walk_at "ev"
    rw [bi_sorted (toPs_map toP_pr p)]
    refine ⟨sortOk_pr p hz, ?_⟩
    rw [sortDP_pr]
    walk_at "ev"
    exact q
theorem x_powers {a : Addr} {m : Nat} {top : Int} {σ : DSt} {j : Nat} {F : FE} {R : List D → DH → Prop} {hk : Nat} (hF : F = callD (tabOf L) (hk + 1)) (ht : 0 < top ∧ top < 1000000) (hm : m ≤ 1000) (h0 : ∀ d : D, (σ.set j (some d))[0]? = some (some (.box a))) (h3 : ∀ d : D, (σ.set j (some d))[3]? = some (some (.int top)))
    (q : ∀ ps : List Int, ps.length = m → (∀ n ∈ ps, 0 ≤ n ∧ n < top) → R (ps.map D.int) h) :
    lcD (tnD (.nm j)) (fun _ => True) (evC F .non) (evE F (.call "_law_take" (.cons (.var 0) (.cons (.var 3) .nil)))) σ R (rngL 0 m) [] h := by
  subst hF
  refine lcD_by (fun r acc g => g = h ∧ acc.length + r.length = m ∧ ∃ ps : List Int, acc = ps.map D.int ∧ ∀ n ∈ ps, 0 ≤ n ∧ n < top) ?_ ?_ ?_ _ _ _ ⟨rfl, by rw [rngL_len]; simp, [], rfl, fun _ z => (nomatch z)⟩
  · rintro x r acc g ⟨_, e, _⟩
    have sz : sizeLine = 16777216 := rfl
    rw [List.length_cons] at e
    omega
  · rintro x r acc g ⟨rfl, e, ps, rfl, hp⟩ N1 N0 hN1 hN0
    refine ⟨trivial, ?_⟩
    walk_at "ev"
    rw [ev_var (h0 x), ev_var (h3 x)]
    refine x_take64 ht.1 (by omega) fun r1 g0 g1 => hN1 _ _ ⟨rfl, ?_, ps ++ [r1], ?_, fun n hn => ?_⟩
    · rw [List.length_append]
      rw [List.length_cons] at e
      simp only [List.length_cons, List.length_nil]
      omega
    · rw [List.map_append]
      rfl
    · rcases List.mem_append.mp hn with z | z
      · exact hp n z
      · rw [List.mem_singleton.mp z]
        exact ⟨g0, g1⟩
  · rintro acc g ⟨rfl, e, ps, rfl, hp⟩
    rw [List.length_map, List.length_nil] at e
    exact ⟨trivial, q ps (by omega) hp⟩
theorem x_drawn_poly {a : Addr} {m most : Nat} {top : Int} (hm : m ≤ 3) (hmo : most ≤ 100) (ht : 0 < top ∧ top < 1000000) (q : ∀ p : Pol, PolOk m top 21 p → p.length ≤ most → Q (pdD p) h) :
    callD (tabOf L) (k + 3) "_law_drawn_poly" [.box a, .int (m : Int), .int (most : Int), .int top] h Q E := by
  refine call_of c__law_drawn_poly rfl rfl ?_
  unfold c__law_drawn_poly
  walk_at "ev"
  intro d hd
  refine x_take64 (by omega) (by omega) fun r0 g0 g1 => ?_
  walk_at "ev"
  refine ⟨by omega, by omega, ?_⟩
  refine forD_by (fun r σ g => ∃ p : Pol, PolOk m top 21 p ∧ p.length + r.length ≤ most ∧ g = updD h d (.dT (pkK p)) ∧ ∃ o5 o6 o7, σ = [some (.box a), some (.int (m : Int)), some (.int (most : Int)), some (.int top), some (.ref d), o5, o6, o7, none]) ?_ ?_ _ _ _ ⟨[], .nil, by rw [rngL_len]; simp; omega, rfl, _, _, _, rfl⟩
  · rintro x r σ g ⟨p, hp, hl, rfl, o5, o6, o7, rfl⟩ N hN
    rw [List.length_cons] at hl
    refine ⟨trivial, ?_⟩
    walk_at "ev"
    refine x_number fun f hf => ?_
    walk_at "ev"
    refine ⟨by omega, by omega, ?_⟩
    rw [Int.toNat_natCast]
    refine x_powers rfl ht (by omega) (fun d => rfl) (fun d => rfl) fun ps e1 e2 => ?_
    walk_at "ev"
    split
    · exact hN _ _ ⟨p, hp, by omega, rfl, _, _, _, rfl⟩
    · rename_i hz
      have sz : sizeLine = 16777216 := rfl
      refine dset_t updD_same (dKey_pw ps) (keyOk_pw ps) (by show (p.map _).length < _; rw [List.length_map]; omega) ?_
      refine hN _ _ ⟨putP p ps f, hp.put e1 e2 (fun z => hz (by rw [z]; rfl)) hf, ?_, ?_, _, _, _, rfl⟩
      · have := putP_len p ps f
        omega
      · rw [updD_upd, putD_pk]
  · rintro σ g ⟨p, hp, hl, rfl, o5, o6, o7, rfl⟩
    refine ⟨trivial, ?_⟩
    walk_at "ev"
    rw [frz_rt updD_same, delD_updD hd]
    exact q p hp (by simpa using hl)
end
end U

/-! Lq: the order of pairs; one sorted form of each polynomial; the program's poly. -/
namespace U
open PySem Deep
local macro_rules | `(tactic| walk_at "ev") => `(tactic| try simp only [es_nil, es_cons, es_asg, es_par, es_sub, es_exp, es_ret, es_retN, es_ite, es_for, es_brk, es_cnt, es_pas, tn_nm, tn_tp, tns_nil, tns_cons, tnsLen,
  ev_v0, ev_vs, ev_cst, ev_glb, ev_typ, ev_op, ev_neg, ev_cmp, ev_chn, ev_and, ev_or, ev_not, ev_ite, ev_tup, ev_lst, ev_ix, ev_sl, ev_call, ev_bi, ev_mt, ev_tm, isStr_s, ev_dnew, ev_dget, ev_mxd, ev_lrng, lrng_i, dnew_t, dnew_k, es_frz, fz_some, walk_dt, walk_dk, ev_frz, ev_lc, ea_nil, ea_cons, ean_nil, ean_cons, eor_nil, eor_cons, eo_non, eo_som, ec_non, ec_som, ei_ex, ei_rng, ei_enm, ei_zip, ei_rev,
  bD_bl, tn_fD, len_fD, kit_fD, walk_fD, ix_f0, ix_f1, op_add_i, op_add_s, op_add_t, op_add_l, op_sub_i, op_mul_i, op_mul_s, op_mul_l, op_fdiv_i, op_mod_i, op_pow_i, neg_i, cmp_eq, cmp_ne, eq_i, eq_s, eq_b, cmp_lt, cmp_le, cmp_gt, cmp_ge, ix_tup, ix_lst, ix_box, ix_scr, at_some, lc_nil, lc_cons, newL_f, newL_t, newL_b, len_str, len_tup, len_lst, len_scr, bi_abs, bi_max2, bi_min2, bi_int_i, bi_int_b, bi_tup_t, bi_tup_l, set_box, walk_tup, walk_lst, walk_str, rng_1, rng_2, sl_tup, sl_lst, sl_scr, wipe_nil, wipe_cons, bi_isi, kit_tup, kit_int, kit_str, kit_bl, kit_non, kit_lst, kb_tt, kb_ii, kb_ib, kb_ll, kb_it, kb_lt, kb_tl, kb_ss, w_plus_plus, w_plus_less, w_plus_times, w_plus_over, w_plus_number, w_plus_letter, w_less_plus, w_less_less, w_less_times, w_less_over, w_less_number, w_less_letter, w_times_plus, w_times_less, w_times_times, w_times_over, w_times_number, w_times_letter, w_over_plus, w_over_less, w_over_times, w_over_over, w_over_number, w_over_letter, w_number_plus, w_number_less, w_number_times, w_number_over, w_number_number, w_number_letter, w_letter_plus, w_letter_less, w_letter_times, w_letter_over, w_letter_number, w_letter_letter, in_plus, in_less, in_times, in_over, in_number, in_letter, at_0, at_1, at_2, cmp_inn_t, cmp_notin_t, flat_s, all_ss,
  startD, List.map_cons, List.map_nil, List.length_cons, List.length_nil, List.replicate, Nat.sub_self, Nat.reduceSub, List.cons_append, List.nil_append, List.append_nil, List.getElem?_cons_zero, List.getElem?_cons_succ, List.set_cons_zero, List.set_cons_succ, Nat.reduceAdd, Nat.zero_add, Nat.add_zero, decide_eq_true_eq, Bool.false_eq_true, if_false, if_true, reduceIte, Bool.not_true, Bool.not_false, Bool.not_eq_true', decide_eq_false_iff_not, ite_not, decide_true, decide_false, eq_self_iff_true, List.length_map, true_and, and_true, reduceCtorEq, Bool.true_eq_false, sizeLine_eq, Nat.reduceLeDiff])
set_option hygiene false in
local macro_rules | `(tactic| walk_at "evt") => `(tactic| simp only [es_nil, es_cons, es_asg, es_par, es_sub, es_exp, es_ret, es_retN, es_ite, es_for, es_brk, es_cnt, es_pas, tn_nm, tn_tp, tns_nil, tns_cons, tnsLen,
  ev_v0, ev_vs, ev_cst, ev_glb, ev_typ, ev_op, ev_neg, ev_cmp, ev_chn, ev_and, ev_or, ev_not, ev_ite, ev_tup, ev_lst, ev_ix, ev_sl, ev_call, ev_bi, ev_mt, ev_tm, isStr_s, ev_dnew, ev_dget, ev_mxd, ev_lrng, lrng_i, dnew_t, dnew_k, es_frz, fz_some, walk_dt, walk_dk, ev_frz, ev_lc, ea_nil, ea_cons, ean_nil, ean_cons, eor_nil, eor_cons, eo_non, eo_som, ec_non, ec_som, ei_ex, ei_rng, ei_enm, ei_zip, ei_rev,
  bD_bl, tn_fD, len_fD, kit_fD, walk_fD, ix_f0, ix_f1, op_add_i, op_add_s, op_add_t, op_add_l, op_sub_i, op_mul_i, op_mul_s, op_mul_l, op_fdiv_i, op_mod_i, op_pow_i, neg_i, cmp_eq, cmp_ne, eq_i, eq_s, eq_b, cmp_lt, cmp_le, cmp_gt, cmp_ge, ix_tup, ix_lst, ix_box, ix_scr, at_some, lc_nil, lc_cons, newL_f, newL_t, newL_b, len_str, len_tup, len_lst, len_scr, bi_abs, bi_max2, bi_min2, bi_int_i, bi_int_b, bi_tup_t, bi_tup_l, set_box, walk_tup, walk_lst, walk_str, rng_1, rng_2, sl_tup, sl_lst, sl_scr, wipe_nil, wipe_cons, bi_isi, kit_tup, kit_int, kit_str, kit_bl, kit_non, kit_lst, kb_tt, kb_ii, kb_ib, kb_ll, kb_it, kb_lt, kb_tl, kb_ss, w_plus_plus, w_plus_less, w_plus_times, w_plus_over, w_plus_number, w_plus_letter, w_less_plus, w_less_less, w_less_times, w_less_over, w_less_number, w_less_letter, w_times_plus, w_times_less, w_times_times, w_times_over, w_times_number, w_times_letter, w_over_plus, w_over_less, w_over_times, w_over_over, w_over_number, w_over_letter, w_number_plus, w_number_less, w_number_times, w_number_over, w_number_number, w_number_letter, w_letter_plus, w_letter_less, w_letter_times, w_letter_over, w_letter_number, w_letter_letter, in_plus, in_less, in_times, in_over, in_number, in_letter, at_0, at_1, at_2, cmp_inn_t, cmp_notin_t, flat_s, all_ss,
  startD, List.map_cons, List.map_nil, List.length_cons, List.length_nil, List.replicate, Nat.sub_self, Nat.reduceSub, List.cons_append, List.nil_append, List.append_nil, List.getElem?_cons_zero, List.getElem?_cons_succ, List.set_cons_zero, List.set_cons_succ, Nat.reduceAdd, Nat.zero_add, Nat.add_zero, decide_eq_true_eq, Bool.false_eq_true, if_false, if_true, reduceIte, Bool.not_true, Bool.not_false, Bool.not_eq_true', decide_eq_false_iff_not, ite_not, decide_true, decide_false, eq_self_iff_true, List.length_map, true_and, and_true, reduceCtorEq, Bool.true_eq_false, sizeLine_eq, Nat.reduceLeDiff] at tl)
theorem lq0 : True := trivial
/-! ### the order -/
theorem lt_pw (a b : List Int) : PySem.W.dataLt (pwP a) (pwP b) = decide (a < b) := by
  unfold pwP
  rw [PySem.W.dataLt_tuple]
  exact PySem.W.dataLt_ints a b
theorem eqv_ints : ∀ a b : List Int, PyData.eqvAll (a.map .int) (b.map .int) = decide (a = b)
  | [], [] => by simp [PyData.eqvAll]
  | [], b :: bs => by simp [PyData.eqvAll]
  | a :: as, [] => by simp [PyData.eqvAll]
  | a :: as, b :: bs => by
    rw [List.map_cons, List.map_cons, PySem.W.eqv_all_cons, eqv_ints as bs]
    by_cases h1 : a = b <;> by_cases h2 : as = bs <;> simp [PyData.eqv, h1, h2]
theorem eqv_pw (a b : List Int) : PyData.eqv (pwP a) (pwP b) = decide (a = b) := by
  unfold pwP
  rw [PyData.eqv]
  exact eqv_ints a b
theorem alike_pw (a b : List Int) : PySem.W.alike (pwP a) (pwP b) = true := by
  simp only [pwP, PySem.W.alike, alike_ii]
theorem alike_f (a b : Rat) : PySem.W.alike (fP a) (fP b) = true := by simp only [fP, PySem.W.alike, PySem.W.alikeAll, Bool.and_self]
/-- pairs of unlike powers stand as their powers do -/
theorem lt_pr {s t : List Int × Rat} (h : s.1 ≠ t.1) : PySem.W.dataLt (prP s) (prP t) = decide (s.1 < t.1) := by
  unfold prP
  rw [PySem.W.dataLt_pair (alike_pw _ _) (alike_f _ _), eqv_pw, lt_pw, if_neg (by simp [h])]
theorem le_of (k : α → PyData) (a b : α) : PySem.W.dataLe false k a b = !PySem.W.dataLt (k b) (k a) := rfl
/-- no two alike, sorted by powers -/
def NF (p : Pol) : Prop := p.Pairwise fun a b => a.1 < b.1
theorem NF.nodup {p : Pol} (h : NF p) : (p.map fun t => t.1).Nodup := by
  unfold List.Nodup
  rw [List.pairwise_map]
  exact h.imp fun {a b} z w => by
    rw [w] at z
    exact absurd z (List.lt_irrefl _)
theorem NF.ext : ∀ {p q : Pol}, NF p → NF q → (∀ t, t ∈ p ↔ t ∈ q) → p = q
  | [], [], _, _, _ => rfl
  | [], t :: q, _, _, h => absurd ((h t).mpr (List.mem_cons_self ..)) (by simp)
  | t :: p, [], _, _, h => absurd ((h t).mp (List.mem_cons_self ..)) (by simp)
  | s :: p, t :: q, hp, hq, h => by
    obtain ⟨p1, p2⟩ := List.pairwise_cons.mp hp
    obtain ⟨q1, q2⟩ := List.pairwise_cons.mp hq
    have e : s = t := by
      rcases List.mem_cons.mp ((h s).mp (List.mem_cons_self ..)) with e | hs
      · exact e
      · rcases List.mem_cons.mp ((h t).mpr (List.mem_cons_self ..)) with e | ht
        · exact e.symm
        · exact absurd (List.lt_trans (q1 s hs) (p1 t ht)) (List.lt_irrefl _)
    subst e
    rw [NF.ext p2 q2 fun u => ?_]
    constructor
    · intro hu
      rcases List.mem_cons.mp ((h u).mp (List.mem_cons_of_mem _ hu)) with e | z
      · subst e
        exact absurd (p1 u hu) (List.lt_irrefl _)
      · exact z
    · intro hu
      rcases List.mem_cons.mp ((h u).mpr (List.mem_cons_of_mem _ hu)) with e | z
      · subst e
        exact absurd (q1 u hu) (List.lt_irrefl _)
      · exact z
theorem dl_irr (a : PyData) : PySem.W.dataLt a a = false := PyProof.Rows.lex_irrefl (O := PyProof.Rows.itemOrd) _
theorem dl_trans {a b c : PyData} : PySem.W.dataLt a b = true → PySem.W.dataLt b c = true → PySem.W.dataLt a c = true := PyProof.Rows.lex_trans (O := PyProof.Rows.itemOrd) _ _ _
theorem dl_total {a b : PyData} : PySem.W.dataLt a b = false → PySem.W.dataLt b a = false → PySem.W.keyToks a = PySem.W.keyToks b := PyProof.Rows.lex_total (O := PyProof.Rows.itemOrd) _ _
theorem dl_asym {a b : PyData} (h : PySem.W.dataLt a b = true) : PySem.W.dataLt b a = false := by
  cases q : PySem.W.dataLt b a with
  | false => rfl
  | true => exact absurd (dl_trans h q) (by rw [dl_irr]; exact Bool.false_ne_true)
theorem dle_trans {α : Type} (k : α → PyData) (a b c : α) : PySem.W.dataLe false k a b = true → PySem.W.dataLe false k b c = true → PySem.W.dataLe false k a c = true := by
  rw [le_of, le_of, le_of]
  intro h1 h2
  simp only [Bool.not_eq_true'] at h1 h2 ⊢
  cases q : PySem.W.dataLt (k c) (k a) with
  | false => rfl
  | true =>
    cases q2 : PySem.W.dataLt (k a) (k b) with
    | true =>
      have := dl_trans q q2
      rw [h2] at this
      cases this
    | false =>
      have e := dl_total q2 h1
      unfold PySem.W.dataLt at q h2
      rw [e, h2] at q
      cases q
theorem dle_total {α : Type} (k : α → PyData) (a b : α) : (PySem.W.dataLe false k a b || PySem.W.dataLe false k b a) = true := by
  rw [le_of, le_of]
  cases q : PySem.W.dataLt (k b) (k a) with
  | false => rfl
  | true =>
    rw [dl_asym q]
    rfl
theorem srt_nf {p : Pol} (nd : (p.map fun t => t.1).Nodup) : NF (srt p) := by
  have h := List.pairwise_mergeSort (dle_trans prP) (dle_total prP) p
  have nd2 : ((srt p).map fun t => t.1).Nodup := ((srt_perm p).map _).nodup_iff.mpr nd
  unfold List.Nodup at nd2
  rw [List.pairwise_map] at nd2
  refine (List.pairwise_and_iff.mpr ⟨h, nd2⟩).imp fun {a b} z => ?_
  obtain ⟨z1, z2⟩ := z
  rw [le_of, lt_pr (fun e => z2 e.symm)] at z1
  simp only [Bool.not_eq_true', decide_eq_false_iff_not] at z1
  rcases Std.lt_trichotomy a.1 b.1 with c | c | c
  · exact c
  · exact absurd c z2
  · exact absurd c z1
/-- the keys of a dict, sorted -/
theorem keys_sorted (ks : List (List Int)) (nd : ks.Nodup) : (ks.mergeSort (PySem.W.dataLe false pwP)).Pairwise fun a b => a < b := by
  have h := List.pairwise_mergeSort (dle_trans pwP) (dle_total pwP) ks
  have nd2 : (ks.mergeSort (PySem.W.dataLe false pwP)).Nodup := (List.mergeSort_perm ks _).nodup_iff.mpr nd
  refine (List.pairwise_and_iff.mpr ⟨h, nd2⟩).imp fun {a b} z => ?_
  obtain ⟨z1, z2⟩ := z
  rw [le_of, lt_pw] at z1
  simp only [Bool.not_eq_true', decide_eq_false_iff_not] at z1
  rcases Std.lt_trichotomy a b with c | c | c
  · exact c
  · exact absurd c z2
  · exact absurd c z1
/-! ### numbers at powers -/
def cf (p : Pol) (ps : List Int) : Rat := (coef p ps).getD 0
theorem mem_of_coef : ∀ {p : Pol} {ps : List Int} {q : Rat}, coef p ps = some q → (ps, q) ∈ p
  | t :: p, ps, q, h => by
    by_cases e : t.1 = ps
    · simp only [coef, List.find?_cons, e, decide_true, Option.map_some, Option.some.injEq] at h
      subst h e
      exact List.mem_cons_self ..
    · simp only [coef, List.find?_cons, e, decide_false] at h
      exact List.mem_cons_of_mem _ (mem_of_coef h)
theorem mem_iff {p : Pol} (nd : (p.map fun t => t.1).Nodup) (nz : ∀ t ∈ p, t.2 ≠ 0) (t : List Int × Rat) : t ∈ p ↔ cf p t.1 = t.2 ∧ t.2 ≠ 0 := by
  constructor
  · intro h
    refine ⟨?_, nz t h⟩
    rw [cf, coef_of_mem nd h]
    rfl
  · rintro ⟨h1, h2⟩
    cases q : coef p t.1 with
    | none =>
      rw [cf, q] at h1
      exact absurd h1.symm h2
    | some z =>
      rw [cf, q] at h1
      have e : z = t.2 := h1
      subst e
      exact mem_of_coef q
/-- polynomials of the same numbers have one sorted form -/
theorem srt_eq {p q : Pol} (np : (p.map fun t => t.1).Nodup) (nq : (q.map fun t => t.1).Nodup) (zp : ∀ t ∈ p, t.2 ≠ 0) (zq : ∀ t ∈ q, t.2 ≠ 0) (h : ∀ ps, cf p ps = cf q ps) : srt p = srt q := by
  refine NF.ext (srt_nf np) (srt_nf nq) fun t => ?_
  rw [(srt_perm p).mem_iff, (srt_perm q).mem_iff, mem_iff np zp, mem_iff nq zq, h]
theorem coef_cons (t : List Int × Rat) (p : Pol) (xs : List Int) : coef (t :: p) xs = if t.1 = xs then some t.2 else coef p xs := by
  by_cases e : t.1 = xs
  · simp [coef, List.find?_cons, e]
  · simp [coef, List.find?_cons, e]
theorem coef_map (ps : List Int) (q : Rat) (xs : List Int) : ∀ p : Pol, (coef (p.map fun t => if t.1 = ps then (t.1, q) else t) xs) = if xs = ps then (coef p xs).map (fun _ => q) else coef p xs
  | [] => by split <;> rfl
  | t :: p => by
    rw [List.map_cons, coef_cons, coef_cons, coef_map ps q xs p]
    by_cases e1 : t.1 = ps
    · rw [if_pos e1]
      by_cases e2 : t.1 = xs
      · have e3 : xs = ps := by rw [← e2, e1]
        rw [if_pos e2, if_pos e2, if_pos e3]
        rfl
      · rw [if_neg e2, if_neg e2]
    · rw [if_neg e1]
      by_cases e2 : t.1 = xs
      · have e3 : ¬ xs = ps := fun z => e1 (by rw [e2, z])
        rw [if_pos e2, if_pos e2, if_neg e3]
      · rw [if_neg e2, if_neg e2]
theorem coef_snoc (ps : List Int) (q : Rat) (xs : List Int) : ∀ p : Pol, coef (p ++ [(ps, q)]) xs = (coef p xs).or (if ps = xs then some q else none)
  | [] => by
    rw [List.nil_append, coef_cons]
    rfl
  | t :: p => by
    rw [List.cons_append, coef_cons, coef_cons, coef_snoc ps q xs p]
    split <;> rfl
theorem coef_put (p : Pol) (ps : List Int) (q : Rat) (xs : List Int) : coef (putP p ps q) xs = if xs = ps then some q else coef p xs := by
  unfold putP
  split
  · rename_i hs
    rw [coef_map]
    by_cases e : xs = ps
    · subst e
      rw [if_pos rfl, if_pos rfl]
      obtain ⟨z, hz⟩ := Option.isSome_iff_exists.mp hs
      rw [hz]
      rfl
    · rw [if_neg e, if_neg e]
  · rename_i hs
    rw [coef_snoc]
    by_cases e : xs = ps
    · subst e
      have : coef p xs = none := by
        cases q : coef p xs with
        | none => rfl
        | some z => rw [q] at hs; simp at hs
      rw [this, if_pos rfl]
      rfl
    · rw [if_neg e, if_neg (fun z => e z.symm)]
      cases coef p xs <;> rfl
/-! ### how great numbers grow -/
theorem pow_mul_lt {a b m n : Nat} (ha : a < 2 ^ m) (hb : b < 2 ^ n) : a * b < 2 ^ (m + n) := by
  rw [Nat.pow_add]
  exact Nat.mul_lt_mul'' ha hb
theorem RB.add {a b : Rat} {m n : Nat} (ha : RB a m) (hb : RB b n) : RB (a + b) (m + n + 1) := by
  have e : a + b = Rat.divInt (a.num * b.den + b.num * a.den) (a.den * b.den) := by
    rw [← Rat.divInt_add_divInt _ _ (den_ne a) (den_ne b), Rat.num_divInt_den, Rat.num_divInt_den]
  rw [e]
  have p : 2 ^ (m + n + 1) = 2 * 2 ^ (m + n) := by rw [Nat.pow_succ]; omega
  have x1 := pow_mul_lt ha.1 hb.2
  have x2 := pow_mul_lt hb.1 ha.2
  have x3 := pow_mul_lt ha.2 hb.2
  rw [Nat.add_comm n m] at x2
  refine RB.divInt ?_ ?_ (Int.mul_ne_zero (den_ne a) (den_ne b))
  · have t := Int.natAbs_add_le (a.num * b.den) (b.num * a.den)
    rw [Int.natAbs_mul, Int.natAbs_mul, Int.natAbs_natCast, Int.natAbs_natCast] at t
    omega
  · rw [Int.natAbs_mul, Int.natAbs_natCast, Int.natAbs_natCast]
    omega
theorem RB.sub {a b : Rat} {m n : Nat} (ha : RB a m) (hb : RB b n) : RB (a - b) (m + n + 1) := by
  rw [Rat.sub_eq_add_neg]
  exact ha.add hb.neg
theorem RB.mul {a b : Rat} {m n : Nat} (ha : RB a m) (hb : RB b n) : RB (a * b) (m + n) := by
  have e : a * b = Rat.divInt (a.num * b.num) (a.den * b.den) := by
    rw [← Rat.divInt_mul_divInt, Rat.num_divInt_den, Rat.num_divInt_den]
  rw [e]
  refine RB.divInt ?_ ?_ (Int.mul_ne_zero (den_ne a) (den_ne b))
  · rw [Int.natAbs_mul]
    exact pow_mul_lt ha.1 hb.1
  · rw [Int.natAbs_mul, Int.natAbs_natCast, Int.natAbs_natCast]
    exact pow_mul_lt ha.2 hb.2
theorem RB.zero {n : Nat} (h : 1 ≤ n) : RB 0 n := by
  have : 2 ^ 1 ≤ 2 ^ n := Nat.pow_le_pow_right (by decide) h
  exact ⟨by show 0 < 2 ^ n; omega, by show 1 < 2 ^ n; omega⟩
/-! ### the program's poly -/
/-- like powers added, in the order in which they come -/
def acc (ts : Pol) : Pol := ts.foldl (fun p t => putP p t.1 (cf p t.1 + t.2)) []
def polyN (ts : Pol) : Pol := srt ((acc ts).filter fun t => decide (t.2 ≠ 0))
theorem acc_snoc (ts : Pol) (t : List Int × Rat) : acc (ts ++ [t]) = putP (acc ts) t.1 (cf (acc ts) t.1 + t.2) := by simp [acc]
theorem acc_nd : ∀ ts : Pol, ((acc ts).map fun t => t.1).Nodup := by
  have gen : ∀ (ts p : Pol), (p.map fun t => t.1).Nodup → ((ts.foldl (fun p t => putP p t.1 (cf p t.1 + t.2)) p).map fun t => t.1).Nodup := by
    intro ts
    induction ts with
    | nil => intro p h; exact h
    | cons t ts ih => intro p h; exact ih _ (putP_keys _ _ _ h)
  exact fun ts => gen ts [] (by simp)
theorem cf_put (p : Pol) (ps : List Int) (q : Rat) (xs : List Int) : cf (putP p ps q) xs = if xs = ps then q else cf p xs := by
  unfold cf
  rw [coef_put]
  split <;> rfl
/-- what the pairs at some powers add up to -/
def sumAt (ts : Pol) (ps : List Int) : Rat := ts.foldl (fun s t => if t.1 = ps then s + t.2 else s) 0
theorem sumAt_snoc (ts : Pol) (t : List Int × Rat) (ps : List Int) : sumAt (ts ++ [t]) ps = if t.1 = ps then sumAt ts ps + t.2 else sumAt ts ps := by simp [sumAt]
theorem cf_acc (ps : List Int) : ∀ (ts : Pol), cf (acc ts) ps = sumAt ts ps := by
  have gen : ∀ (ts p : Pol) (s : Rat), cf p ps = s → cf (ts.foldl (fun p t => putP p t.1 (cf p t.1 + t.2)) p) ps = ts.foldl (fun s t => if t.1 = ps then s + t.2 else s) s := by
    intro ts
    induction ts with
    | nil => intro p s h; exact h
    | cons t ts ih =>
      intro p s h
      rw [List.foldl_cons, List.foldl_cons]
      refine ih _ _ ?_
      rw [cf_put]
      by_cases e : t.1 = ps
      · rw [if_pos e.symm, if_pos e, e, h]
      · rw [if_neg (fun z => e z.symm), if_neg e, h]
  exact fun ts => gen ts [] 0 rfl
theorem fD_zero : D.tup [.int 0, .int 1] = fD 0 := rfl
theorem fD_one : D.tup [.int 1, .int 1] = fD 1 := rfl
theorem shaped_f (q : Rat) : SeqAt.shaped (fP q) = true := by
  simp [fP, SeqAt.shaped, PyData.canLay0, PyData.canLayAll0, PyData.depth, PyData.depthAll]
theorem eqv_f (a b : Rat) : PyData.eqv (fP a) (fP b) = decide (a = b) := by
  have : (a = b) ↔ a.num = b.num ∧ a.den = b.den := ⟨fun e => by rw [e]; exact ⟨rfl, rfl⟩, fun e => Rat.ext e.1 e.2⟩
  have e2 : ((a.den : Int) = (b.den : Int)) ↔ a.den = b.den := Int.ofNat_inj
  by_cases h1 : a.num = b.num <;> by_cases h2 : a.den = b.den <;> simp [fP, PyData.eqv, PyData.eqvAll, h1, h2, this, e2]
theorem eq_fD {a b : Rat} {h : DH} {R : Bool → Prop} : eqD (fD a) (fD b) h R = (SeqAt.shaped (fP a) = true ∧ SeqAt.shaped (fP b) = true ∧ R (decide (a = b))) := by
  rw [eq_d (p := fP a) (q := fP b) rfl (show topP h (fD a) = some (fP a) from toP_fD a) (show topP h (fD b) = some (fP b) from toP_fD b), eqv_f]
end U

/-! Lx: the order of pairs; one sorted form of each polynomial; the program's poly. -/
namespace U
open PySem Deep
local macro_rules | `(tactic| walk_at "ev") => `(tactic| try simp only [es_nil, es_cons, es_asg, es_par, es_sub, es_exp, es_ret, es_retN, es_ite, es_for, es_brk, es_cnt, es_pas, tn_nm, tn_tp, tns_nil, tns_cons, tnsLen,
  ev_v0, ev_vs, ev_cst, ev_glb, ev_typ, ev_op, ev_neg, ev_cmp, ev_chn, ev_and, ev_or, ev_not, ev_ite, ev_tup, ev_lst, ev_ix, ev_sl, ev_call, ev_bi, ev_mt, ev_tm, isStr_s, ev_dnew, ev_dget, ev_mxd, ev_lrng, lrng_i, dnew_t, dnew_k, es_frz, fz_some, walk_dt, walk_dk, ev_frz, ev_lc, ea_nil, ea_cons, ean_nil, ean_cons, eor_nil, eor_cons, eo_non, eo_som, ec_non, ec_som, ei_ex, ei_rng, ei_enm, ei_zip, ei_rev,
  bD_bl, tn_fD, len_fD, kit_fD, walk_fD, ix_f0, ix_f1, op_add_i, op_add_s, op_add_t, op_add_l, op_sub_i, op_mul_i, op_mul_s, op_mul_l, op_fdiv_i, op_mod_i, op_pow_i, neg_i, cmp_eq, cmp_ne, eq_i, eq_s, eq_b, cmp_lt, cmp_le, cmp_gt, cmp_ge, ix_tup, ix_lst, ix_box, ix_scr, at_some, lc_nil, lc_cons, newL_f, newL_t, newL_b, len_str, len_tup, len_lst, len_scr, bi_abs, bi_max2, bi_min2, bi_int_i, bi_int_b, bi_tup_t, bi_tup_l, set_box, walk_tup, walk_lst, walk_str, rng_1, rng_2, sl_tup, sl_lst, sl_scr, wipe_nil, wipe_cons, bi_isi, kit_tup, kit_int, kit_str, kit_bl, kit_non, kit_lst, kb_tt, kb_ii, kb_ib, kb_ll, kb_it, kb_lt, kb_tl, kb_ss, w_plus_plus, w_plus_less, w_plus_times, w_plus_over, w_plus_number, w_plus_letter, w_less_plus, w_less_less, w_less_times, w_less_over, w_less_number, w_less_letter, w_times_plus, w_times_less, w_times_times, w_times_over, w_times_number, w_times_letter, w_over_plus, w_over_less, w_over_times, w_over_over, w_over_number, w_over_letter, w_number_plus, w_number_less, w_number_times, w_number_over, w_number_number, w_number_letter, w_letter_plus, w_letter_less, w_letter_times, w_letter_over, w_letter_number, w_letter_letter, in_plus, in_less, in_times, in_over, in_number, in_letter, at_0, at_1, at_2, cmp_inn_t, cmp_notin_t, flat_s, all_ss,
  startD, List.map_cons, List.map_nil, List.length_cons, List.length_nil, List.replicate, Nat.sub_self, Nat.reduceSub, List.cons_append, List.nil_append, List.append_nil, List.getElem?_cons_zero, List.getElem?_cons_succ, List.set_cons_zero, List.set_cons_succ, Nat.reduceAdd, Nat.zero_add, Nat.add_zero, decide_eq_true_eq, Bool.false_eq_true, if_false, if_true, reduceIte, Bool.not_true, Bool.not_false, Bool.not_eq_true', decide_eq_false_iff_not, ite_not, decide_true, decide_false, eq_self_iff_true, List.length_map, true_and, and_true, reduceCtorEq, Bool.true_eq_false, sizeLine_eq, Nat.reduceLeDiff])
set_option hygiene false in
local macro_rules | `(tactic| walk_at "evt") => `(tactic| simp only [es_nil, es_cons, es_asg, es_par, es_sub, es_exp, es_ret, es_retN, es_ite, es_for, es_brk, es_cnt, es_pas, tn_nm, tn_tp, tns_nil, tns_cons, tnsLen,
  ev_v0, ev_vs, ev_cst, ev_glb, ev_typ, ev_op, ev_neg, ev_cmp, ev_chn, ev_and, ev_or, ev_not, ev_ite, ev_tup, ev_lst, ev_ix, ev_sl, ev_call, ev_bi, ev_mt, ev_tm, isStr_s, ev_dnew, ev_dget, ev_mxd, ev_lrng, lrng_i, dnew_t, dnew_k, es_frz, fz_some, walk_dt, walk_dk, ev_frz, ev_lc, ea_nil, ea_cons, ean_nil, ean_cons, eor_nil, eor_cons, eo_non, eo_som, ec_non, ec_som, ei_ex, ei_rng, ei_enm, ei_zip, ei_rev,
  bD_bl, tn_fD, len_fD, kit_fD, walk_fD, ix_f0, ix_f1, op_add_i, op_add_s, op_add_t, op_add_l, op_sub_i, op_mul_i, op_mul_s, op_mul_l, op_fdiv_i, op_mod_i, op_pow_i, neg_i, cmp_eq, cmp_ne, eq_i, eq_s, eq_b, cmp_lt, cmp_le, cmp_gt, cmp_ge, ix_tup, ix_lst, ix_box, ix_scr, at_some, lc_nil, lc_cons, newL_f, newL_t, newL_b, len_str, len_tup, len_lst, len_scr, bi_abs, bi_max2, bi_min2, bi_int_i, bi_int_b, bi_tup_t, bi_tup_l, set_box, walk_tup, walk_lst, walk_str, rng_1, rng_2, sl_tup, sl_lst, sl_scr, wipe_nil, wipe_cons, bi_isi, kit_tup, kit_int, kit_str, kit_bl, kit_non, kit_lst, kb_tt, kb_ii, kb_ib, kb_ll, kb_it, kb_lt, kb_tl, kb_ss, w_plus_plus, w_plus_less, w_plus_times, w_plus_over, w_plus_number, w_plus_letter, w_less_plus, w_less_less, w_less_times, w_less_over, w_less_number, w_less_letter, w_times_plus, w_times_less, w_times_times, w_times_over, w_times_number, w_times_letter, w_over_plus, w_over_less, w_over_times, w_over_over, w_over_number, w_over_letter, w_number_plus, w_number_less, w_number_times, w_number_over, w_number_number, w_number_letter, w_letter_plus, w_letter_less, w_letter_times, w_letter_over, w_letter_number, w_letter_letter, in_plus, in_less, in_times, in_over, in_number, in_letter, at_0, at_1, at_2, cmp_inn_t, cmp_notin_t, flat_s, all_ss,
  startD, List.map_cons, List.map_nil, List.length_cons, List.length_nil, List.replicate, Nat.sub_self, Nat.reduceSub, List.cons_append, List.nil_append, List.append_nil, List.getElem?_cons_zero, List.getElem?_cons_succ, List.set_cons_zero, List.set_cons_succ, Nat.reduceAdd, Nat.zero_add, Nat.add_zero, decide_eq_true_eq, Bool.false_eq_true, if_false, if_true, reduceIte, Bool.not_true, Bool.not_false, Bool.not_eq_true', decide_eq_false_iff_not, ite_not, decide_true, decide_false, eq_self_iff_true, List.length_map, true_and, and_true, reduceCtorEq, Bool.true_eq_false, sizeLine_eq, Nat.reduceLeDiff] at tl)
theorem lx0 : True := trivial
/-- the keys of a dict, sorted, with what stands there, noughts left out -/
def keysS (p : Pol) : List (List Int) := (p.map fun t => t.1).mergeSort (PySem.W.dataLe false pwP)
def outF (p : Pol) (ps : List Int) : Option (List Int × Rat) := if cf p ps = 0 then none else some (ps, cf p ps)
def outP (p : Pol) : Pol := (keysS p).filterMap (outF p)
theorem outF_some {p : Pol} {ps : List Int} {t : List Int × Rat} (h : outF p ps = some t) : t.1 = ps ∧ t.2 = cf p ps ∧ t.2 ≠ 0 := by
  unfold outF at h
  split at h
  · cases h
  · rename_i e
    cases h
    exact ⟨rfl, rfl, e⟩
theorem cf_mem {p : Pol} {t : List Int × Rat} (nd : (p.map fun t => t.1).Nodup) (h : t ∈ p) : cf p t.1 = t.2 := by
  unfold cf
  rw [coef_of_mem nd h]
  rfl
theorem outP_eq {p : Pol} (nd : (p.map fun t => t.1).Nodup) : outP p = srt (p.filter fun t => decide (t.2 ≠ 0)) := by
  refine NF.ext ?_ (srt_nf ?_) fun t => ?_
  · unfold NF outP
    rw [List.pairwise_filterMap]
    refine (keys_sorted _ nd).imp fun {a b} h x hx y hy => ?_
    rw [(outF_some hx).1, (outF_some hy).1]
    exact h
  · exact nd.sublist ((List.filter_sublist ..).map _)
  · rw [(srt_perm _).mem_iff, List.mem_filter]
    unfold outP keysS
    rw [List.mem_filterMap]
    constructor
    · rintro ⟨ps, h1, h2⟩
      rw [(List.mergeSort_perm _ _).mem_iff] at h1
      obtain ⟨u, hu, rfl⟩ := List.mem_map.mp h1
      obtain ⟨e1, e2, e3⟩ := outF_some h2
      rw [cf_mem nd hu] at e2
      have : t = u := Prod.ext e1 e2
      subst this
      exact ⟨hu, by simpa using e3⟩
    · rintro ⟨h1, h2⟩
      refine ⟨t.1, ?_, ?_⟩
      · rw [(List.mergeSort_perm _ _).mem_iff]
        exact List.mem_map_of_mem h1
      · unfold outF
        rw [cf_mem nd h1, if_neg (by simpa using h2)]
theorem pw_data (ps : List Int) : (pwK ps).data = pwP ps := by
  have : ∀ xs : List Int, NestedKey.datas (xs.map .num) = xs.map PyData.int := by
    intro xs
    induction xs with
    | nil => rfl
    | cons n xs ih => simp only [List.map_cons, NestedKey.datas, NestedKey.data, ih]
  simp only [pwK, NestedKey.data, this, pwP]
theorem sortDP_keys (p : Pol) : sortDP ((pkK p).map fun x => keyD x.1) ((pkK p).map fun x => x.1.data) = (keysS p).map pwD := by
  have e1 : ((pkK p).map fun x => keyD x.1) = (p.map fun t => t.1).map pwD := by
    unfold pkK
    rw [List.map_map, List.map_map]
    exact List.map_congr_left fun t _ => keyD_pw t.1
  have e2 : ((pkK p).map fun x => x.1.data) = (p.map fun t => t.1).map pwP := by
    unfold pkK
    rw [List.map_map, List.map_map]
    exact List.map_congr_left fun t _ => pw_data t.1
  rw [e1, e2]
  unfold sortDP keysS
  generalize (p.map fun t => t.1) = ks
  have e : (ks.map pwD).zip (ks.map pwP) = ks.map fun t => (pwD t, pwP t) := by
    induction ks with
    | nil => rfl
    | cons t ks ih => simp only [List.map_cons, List.zip_cons_cons, ih]
  rw [e, ← List.map_mergeSort (r := PySem.W.dataLe false pwP) (s := PySem.W.dataLe false fun t : D × PyData => t.2) (f := fun t => (pwD t, pwP t)) (l := ks) (fun _ _ _ _ => rfl), List.map_map]
  rfl
theorem sortOk_pw (ks : List (List Int)) (hne : ∀ x ∈ ks, x ≠ []) (hz : ks.length ≤ 1000000) : SortOk (ks.map pwP) := by
  refine ⟨fun x hx y hy => ?_, .inl fun x hx => ?_, ?_, fun x hx => ?_⟩
  · obtain ⟨a, _, rfl⟩ := List.mem_map.mp hx
    obtain ⟨b, _, rfl⟩ := List.mem_map.mp hy
    exact alike_pw a b
  · obtain ⟨a, ha, rfl⟩ := List.mem_map.mp hx
    cases a with
    | nil => exact absurd rfl (hne [] ha)
    | cons n a => exact ⟨_, _, rfl⟩
  · have sz : sizeLine = 16777216 := rfl
    rw [List.length_map]
    omega
  · obtain ⟨a, _, rfl⟩ := List.mem_map.mp hx
    simp only [pwP, PyData.depth, depth_all]
    omega
theorem bi_sorted_pd {m : LK} {p : Pol} {h : DH} {Q : DQ} (hne : ∀ t ∈ p, t.1 ≠ []) (hz : p.length ≤ 1000000) (q : newL m ((keysS p).map pwD) h Q) : biD .sorted m [pdD p] h Q := by
  have e : biD .sorted m [pdD p] h Q = (SortOk ((pkK p).map fun x => x.1.data) ∧ newL m (sortDP ((pkK p).map fun x => keyD x.1) ((pkK p).map fun x => x.1.data)) h Q) := by
    unfold pdD
    have el : asL h (dtD (pkK p)) = none := rfl
    simp only [biD, el, asD_dt]
  rw [e, sortDP_keys]
  refine ⟨?_, q⟩
  have e2 : ((pkK p).map fun x => x.1.data) = (p.map fun t => t.1).map pwP := by
    unfold pkK
    rw [List.map_map, List.map_map]
    exact List.map_congr_left fun t _ => pw_data t.1
  rw [e2]
  exact sortOk_pw _ (fun x hx => by
    obtain ⟨t, ht, rfl⟩ := List.mem_map.mp hx
    exact hne t ht) (by rw [List.length_map]; exact hz)
theorem keysS_mem {p : Pol} {ps : List Int} (h : ps ∈ keysS p) : ∃ q, coef p ps = some q := by
  unfold keysS at h
  rw [(List.mergeSort_perm _ _).mem_iff] at h
  by_cases e : (coef p ps).isSome = true
  · exact Option.isSome_iff_exists.mp e
  · exact absurd h (coef_none e)
theorem acc_len (ts : Pol) : (acc ts).length ≤ ts.length := by
  have gen : ∀ (ts p : Pol), (ts.foldl (fun p t => putP p t.1 (cf p t.1 + t.2)) p).length ≤ p.length + ts.length := by
    intro ts
    induction ts with
    | nil => intro p; simp
    | cons t ts ih =>
      intro p
      rw [List.foldl_cons, List.length_cons]
      have := ih (putP p t.1 (cf p t.1 + t.2))
      have := putP_len p t.1 (cf p t.1 + t.2)
      omega
  have := gen ts []
  rw [List.length_nil, Nat.zero_add] at this
  exact this
theorem acc_mem (ts : Pol) {t : List Int × Rat} (h : t ∈ acc ts) : ∃ u ∈ ts, u.1 = t.1 := by
  have gen : ∀ (ts p : Pol), (t ∈ ts.foldl (fun p t => putP p t.1 (cf p t.1 + t.2)) p) → (∃ u ∈ p, u.1 = t.1) ∨ ∃ u ∈ ts, u.1 = t.1 := by
    intro ts
    induction ts with
    | nil => intro p h; exact .inl ⟨t, h, rfl⟩
    | cons u ts ih =>
      intro p h
      rcases ih _ h with ⟨v, hv, e⟩ | ⟨v, hv, e⟩
      · rcases putP_mem hv with z | rfl
        · exact .inl ⟨v, z, e⟩
        · exact .inr ⟨u, List.mem_cons_self .., e⟩
      · exact .inr ⟨v, List.mem_cons_of_mem _ hv, e⟩
  rcases gen ts [] h with ⟨u, hu, _⟩ | z
  · cases hu
  · exact z
theorem RB.mono' {a : Rat} {m n : Nat} (h : RB a m) (hl : m ≤ n) : RB a n := by
  have p : 2 ^ m ≤ 2 ^ n := Nat.pow_le_pow_right (by decide) hl
  exact ⟨Nat.lt_of_lt_of_le h.1 p, Nat.lt_of_lt_of_le h.2 p⟩
theorem RB.sumAt {b : Nat} (ps : List Int) (ts : Pol) (h : ∀ t ∈ ts, RB t.2 b) : RB (sumAt ts ps) (ts.length * (b + 1) + 1) := by
  have gen : ∀ (ts : Pol) (s : Rat) (n : Nat), RB s n → (∀ t ∈ ts, RB t.2 b) → RB (ts.foldl (fun s t => if t.1 = ps then s + t.2 else s) s) (n + ts.length * (b + 1)) := by
    intro ts
    induction ts with
    | nil => intro s n hs _; simpa using hs
    | cons t ts ih =>
      intro s n hs hb
      rw [List.foldl_cons, List.length_cons, Nat.succ_mul]
      have := ih (if t.1 = ps then s + t.2 else s) (n + b + 1) (by
        split
        · exact hs.add (hb t (List.mem_cons_self ..))
        · exact hs.mono' (by omega)) fun u hu => hb u (List.mem_cons_of_mem _ hu)
      exact this.mono' (by omega)
  exact (gen ts 0 1 (RB.zero (Nat.le_refl 1)) h).mono' (by omega)
def outD (p : Pol) (x : D) : Option D := match x with
  | .tup xs => match intsD xs with
    | some ns => (outF p ns).map prD
    | none => none
  | _ => none
theorem outD_pw (p : Pol) (ps : List Int) : outD p (pwD ps) = (outF p ps).map prD := by simp only [pwD, outD, intsD_map]
section
variable {L : String → Option Df} {k : Nat} {h : DH} {Q : DQ} {E : XQ}
theorem x_poly (hL : L "poly" = some c_poly) {xs : D} {ts : Pol} {b : Nat} (hx : xs = .tup (ts.map prD) ∨ xs = .lst (ts.map prD)) (hne : ∀ t ∈ ts, t.1 ≠ []) (hb : ∀ t ∈ ts, RB t.2 b) (hl : ts.length * (b + 1) + b + 1 ≤ 9000) (q : Q (ptD (polyN ts)) h) : callD (tabOf L) (k + 4) "poly" [xs] h Q E := by
  refine call_of c_poly (show tabOf L "poly" = some c_poly from hL) rfl ?_
  have sz : sizeLine = 16777216 := rfl
  have hn : ts.length ≤ 9000 := by
    have : ts.length ≤ ts.length * (b + 1) := Nat.le_mul_of_pos_right _ (by omega)
    omega
  unfold c_poly
  walk_at "ev"
  intro d hd
  have hw : ∀ g R, walkD xs g R = R (ts.map prD) fun _ => True := by
    rcases hx with rfl | rfl <;> intro g R <;> rfl
  rw [hw]
  · skip
    refine forD_by (fun r σ g => ∃ done rest : Pol, ts = done ++ rest ∧ r = rest.map prD ∧ g = updD h d (.dT (pkK (acc done))) ∧ ∃ o2 o3, σ = [some xs, some (.ref d), o2, o3]) ?_ ?_ _ _ _ ⟨[], ts, rfl, rfl, rfl, _, _, rfl⟩
    · rintro x r σ g ⟨done, rest, e, er, rfl, o2, o3, rfl⟩ N hN
      refine ⟨trivial, ?_⟩
      cases rest with
      | nil => cases er
      | cons t rest =>
        rw [List.map_cons] at er
        cases er
        have e0 : prD t = .tup [pwD t.1, fD t.2] := rfl
        rw [e0]
        walk_at "ev"
        refine ⟨by simp [isDic, asD, updD_same], dget2_t updD_same (dKey_pw t.1) (keyOk_pw t.1) ?_⟩
        have ev : ((valK (pkK (acc done)) (pwK t.1)).getD (.tup [.int 0, .int 1])) = fD (cf (acc done) t.1) := by
          rw [valK_pk]
          unfold cf
          cases coef (acc done) t.1 <;> rfl
        rw [ev, cf_acc]
        have ht : t ∈ ts := by rw [e]; simp
        have hb1 : RB (sumAt done t.1) (done.length * (b + 1) + 1) := RB.sumAt _ _ fun u hu => hb u (by rw [e]; simp [hu])
        have hlen : done.length + 1 ≤ ts.length := by rw [e, List.length_append, List.length_cons]; omega
        have hmul : (done.length + 1) * (b + 1) ≤ ts.length * (b + 1) := Nat.mul_le_mul_right _ hlen
        rw [Nat.succ_mul] at hmul
        refine x_plus hb1 (hb t ht) (by omega) ?_
        refine dset_t updD_same (dKey_pw t.1) (keyOk_pw t.1) ?_ ?_
        · show (List.map _ (acc done)).length < _
          rw [List.length_map]
          have := acc_len done
          omega
        · rw [updD_upd, putD_pk]
          refine hN _ _ ⟨done ++ [t], rest, by simp [e], rfl, ?_, _, _, rfl⟩
          rw [acc_snoc, cf_acc]
    · rintro σ g ⟨done, rest, e, er, rfl, o2, o3, rfl⟩
      refine ⟨trivial, ?_⟩
      have : rest = [] := by
        cases rest with
        | nil => rfl
        | cons t rest => cases er
      subst this
      rw [List.append_nil] at e
      subst e
      walk_at "ev"
      rw [frz_rt updD_same, delD_updD hd]
      walk_at "ev"
      show biD .sorted .f [pdD (acc ts)] h _
      have hlen := acc_len ts
      refine bi_sorted_pd (fun t ht => ?_) (by omega) ?_
      · obtain ⟨u, hu, eu⟩ := acc_mem ts ht
        rw [← eu]
        exact hne u hu
      walk_at "ev"
      refine lcD_pure (outD (acc ts)) trivial _ _ (fun x hx K1 K0 hK => ?_) ?_ ?_
      · obtain ⟨ps, hps, rfl⟩ := List.mem_map.mp hx
        obtain ⟨z, hz⟩ := keysS_mem hps
        have ec : valK (pkK (acc ts)) (pwK ps) = some (fD z) := by rw [valK_pk, hz]; rfl
        have ez : cf (acc ts) ps = z := by unfold cf; rw [hz]; rfl
        rw [outD_pw] at hK
        unfold outF at hK
        rw [ez] at hK
        walk_at "ev"
        rw [ix_dt]
        refine dget_dt (dKey_pw _) (keyOk_pw _) ec ?_
        rw [fD_zero, eq_fD]
        refine ⟨shaped_f _, shaped_f _, ?_⟩
        by_cases e0 : z = 0
        · rw [if_pos e0] at hK
          simp only [e0, decide_true, Bool.not_true, Bool.false_eq_true, if_false]
          exact hK
        · rw [if_neg e0] at hK
          simp only [e0, decide_false, Bool.not_false, if_true]
          walk_at "ev"
          rw [ix_dt]
          exact dget_dt (dKey_pw _) (keyOk_pw _) ec hK
      · rw [List.length_map, List.length_nil]
        unfold keysS
        rw [List.length_mergeSort, List.length_map]
        omega
      · have e : ((keysS (acc ts)).map pwD).filterMap (outD (acc ts)) = (outP (acc ts)).map prD := by
          rw [List.filterMap_map, outP, List.map_filterMap]
          congr 1
          funext ps
          exact outD_pw _ _
        rw [e, outP_eq (acc_nd ts)]
        walk_at "ev"
        exact q
/-- a comprehension over a list that is a map of another one -/
theorem lcD_maps {α : Type} {g : D → DSt → (DSt → Prop) → Prop} {ok : DH → Prop} {c : DT} {e : DE} {σ : DSt} {R : List D → DH → Prop} {h : DH} (g0 : α → D) (f : α → Option D) (hk : ok h) : ∀ (as : List α) (acc : List D), (∀ a ∈ as, ∀ (K1 : D → DH → Prop) (K0 : DH → Prop), (match f a with
        | some y => K1 y h
        | none => K0 h) → g (g0 a) σ fun σ' => c σ' h (fun b h1 => if b = true then e σ' h1 K1 (fun _ _ _ => False) else K0 h1) (fun _ _ _ => False)) →
      acc.length + as.length ≤ sizeLine → R (acc ++ as.filterMap f) h → lcD g ok c e σ R (as.map g0) acc h
  | [], acc, _, _, r => ⟨hk, by simpa using r⟩
  | a :: as, acc, hs, hl, r => by
    rw [List.length_cons] at hl
    refine ⟨hk, hs a (List.mem_cons_self ..) _ _ ?_⟩
    rw [List.filterMap_cons] at r
    split
    · rename_i y hy
      rw [hy] at r
      refine ⟨by omega, ?_⟩
      refine lcD_maps g0 f hk as _ (fun b hb => hs b (List.mem_cons_of_mem _ hb)) ?_ ?_
      · rw [List.length_append, List.length_singleton]
        omega
      · simpa using r
    · rename_i hy
      rw [hy] at r
      exact lcD_maps g0 f hk as _ (fun b hb => hs b (List.mem_cons_of_mem _ hb)) (by omega) r
def negP (p : Pol) : Pol := p.map fun t => (t.1, 0 - t.2)
theorem x_turned (hL : L "turned" = some c_turned) {p : Pol} {b : Nat} (hb : ∀ t ∈ p, RB t.2 b) (hbl : b + 1 ≤ 9000) (hz : p.length ≤ 1000000) (q : Q (ptD (negP p)) h) : callD (tabOf L) (k + 4) "turned" [ptD p] h Q E := by
  refine call_of c_turned (show tabOf L "turned" = some c_turned from hL) rfl ?_
  have sz : sizeLine = 16777216 := rfl
  unfold c_turned ptD
  walk_at "ev"
  refine lcD_maps prD (fun t => some (prD (t.1, 0 - t.2))) trivial _ _ (fun t ht K1 K0 hK => ?_) (by rw [List.length_nil]; omega) ?_
  · have e0 : prD t = .tup [pwD t.1, fD t.2] := rfl
    rw [e0]
    walk_at "ev"
    rw [fD_zero]
    exact x_less (RB.zero (Nat.le_refl 1)) (hb t ht) (by omega) hK
  · show Q (D.tup ([] ++ List.filterMap (some ∘ fun t => prD (t.1, 0 - t.2)) p)) h
    rw [List.filterMap_eq_map, List.nil_append]
    have e : p.map (fun t => prD (t.1, 0 - t.2)) = (negP p).map prD := by
      unfold negP
      rw [List.map_map]
      rfl
    rw [e]
    exact q
theorem x_poly_plus (hL : L "poly" = some c_poly) {p1 p2 : Pol} {b : Nat} (hne : ∀ t ∈ p1 ++ p2, t.1 ≠ []) (hb : ∀ t ∈ p1 ++ p2, RB t.2 b) (hl : (p1 ++ p2).length * (b + 1) + b + 1 ≤ 9000) (q : Q (ptD (polyN (p1 ++ p2))) h) : callD (tabOf L) (k + 5) "poly_plus" [ptD p1, ptD p2] h Q E := by
  refine call_of c_poly_plus rfl rfl ?_
  unfold c_poly_plus
  unfold ptD at *
  walk_at "ev"
  have hn : (p1 ++ p2).length ≤ 9000 := by
    have : (p1 ++ p2).length ≤ (p1 ++ p2).length * (b + 1) := Nat.le_mul_of_pos_right _ (by omega)
    omega
  have sz : sizeLine = 16777216 := rfl
  rw [List.length_append] at hn
  refine ⟨by omega, ?_⟩
  rw [← List.map_append]
  exact x_poly hL (.inl rfl) hne hb hl q
theorem x_poly_less (hL : L "poly" = some c_poly) (hL2 : L "turned" = some c_turned) {p1 p2 : Pol} {b : Nat} (hne : ∀ t ∈ p1 ++ p2, t.1 ≠ []) (hb : ∀ t ∈ p1 ++ p2, RB t.2 b) (hl : (p1 ++ p2).length * (b + 1) + b + 1 ≤ 9000) (q : Q (ptD (polyN (p1 ++ negP p2))) h) : callD (tabOf L) (k + 5) "poly_less" [ptD p1, ptD p2] h Q E := by
  refine call_of c_poly_less rfl rfl ?_
  unfold c_poly_less
  walk_at "ev"
  have hn : (p1 ++ p2).length ≤ 9000 := by
    have : (p1 ++ p2).length ≤ (p1 ++ p2).length * (b + 1) := Nat.le_mul_of_pos_right _ (by omega)
    omega
  have sz : sizeLine = 16777216 := rfl
  have hn2 := hn
  rw [List.length_append] at hn
  refine x_turned hL2 (fun t ht => hb t (List.mem_append_right _ ht)) (by omega) (by omega) ?_
  unfold ptD at *
  walk_at "ev"
  have hln : (negP p2).length = p2.length := by simp [negP]
  refine ⟨by omega, ?_⟩
  rw [← List.map_append]
  refine x_poly hL (.inl rfl) (fun t ht => ?_) (fun t ht => ?_) (by rw [List.length_append, hln, ← List.length_append]; exact hl) q
  · rcases List.mem_append.mp ht with z | z
    · exact hne t (List.mem_append_left _ z)
    · obtain ⟨u, hu, rfl⟩ := List.mem_map.mp z
      exact hne u (List.mem_append_right _ hu)
  · rcases List.mem_append.mp ht with z | z
    · exact hb t (List.mem_append_left _ z)
    · obtain ⟨u, hu, rfl⟩ := List.mem_map.mp z
      show RB (0 - u.2) b
      rw [Rat.sub_eq_add_neg, Rat.zero_add]
      exact (hb u (List.mem_append_right _ hu)).neg
theorem zipL_ints : ∀ a b : List Int, zipL (a.map D.int) (b.map D.int) = (a.zip b).map fun z => .tup [.int z.1, .int z.2]
  | [], _ => by simp [zipL]
  | _ :: _, [] => by simp [zipL]
  | x :: a, y :: b => by simp only [List.map_cons, zipL, List.zip_cons_cons, zipL_ints a b]
theorem zip_tt {xs ys : List D} {R : List D → (DH → Prop) → Prop} : zipW (.tup xs) (.tup ys) h R = R (zipL xs ys) fun _ => True := (rfl)
theorem ext_r {p : Addr} {xs zs : List D} {h : DH} {Q : DQ} (e : h p = some (.lst xs)) (hz : xs.length + zs.length ≤ sizeLine) (q : Q .non (updD h p (.lst (xs ++ zs)))) : mtD .extend (.ref p) [.lst zs] h Q := by
  simp only [mtD, e, asL]
  exact ⟨hz, q⟩
def addPw (a b : List Int) : List Int := List.zipWith (· + ·) a b
theorem x_powers_added {a b : List Int} (hz : a.length ≤ 1000000) (q : Q (pwD (addPw a b)) h) : callD (tabOf L) (k + 1) "powers_added" [pwD a, pwD b] h Q E := by
  refine call_of c_powers_added rfl rfl ?_
  have sz : sizeLine = 16777216 := rfl
  unfold c_powers_added pwD
  walk_at "ev"
  rw [zip_tt, zipL_ints]
  refine lcD_maps (fun z : Int × Int => D.tup [.int z.1, .int z.2]) (fun z => some (.int (z.1 + z.2))) trivial _ _ (fun z hz K1 K0 hK => ?_) ?_ ?_
  · walk_at "ev"
    exact hK
  · rw [List.length_nil, List.length_zip]
    omega
  · show Q (D.tup ([] ++ List.filterMap (some ∘ fun z : Int × Int => D.int (z.1 + z.2)) (a.zip b))) h
    rw [List.filterMap_eq_map, List.nil_append]
    have e : (a.zip b).map (fun z : Int × Int => D.int (z.1 + z.2)) = (addPw a b).map D.int := by
      unfold addPw
      rw [List.map_zipWith, List.zip, List.map_zipWith]
    rw [e]
    exact q
def mulP (p1 p2 : Pol) : Pol := p1.flatMap fun t => p2.map fun u => (addPw t.1 u.1, t.2 * u.2)
theorem mulP_len (p1 p2 : Pol) : (mulP p1 p2).length = p1.length * p2.length := by
  simp [mulP, List.length_flatMap, List.map_const', List.sum_replicate_nat]
theorem x_poly_times (hL : L "poly" = some c_poly) {p1 p2 : Pol} {b1 b2 : Nat} (hne : ∀ t ∈ mulP p1 p2, t.1 ≠ []) (hb1 : ∀ t ∈ p1, RB t.2 b1) (hb2 : ∀ t ∈ p2, RB t.2 b2) (hm : ∀ t ∈ p1, t.1.length ≤ 1000000) (hl : p1.length * p2.length * (b1 + b2 + 1) + b1 + b2 + 1 ≤ 9000) (hl2 : p1.length ≤ 9000 ∧ p2.length ≤ 9000) (q : Q (ptD (polyN (mulP p1 p2))) h) : callD (tabOf L) (k + 5) "poly_times" [ptD p1, ptD p2] h Q E := by
  refine call_of c_poly_times rfl rfl ?_
  have sz : sizeLine = 16777216 := rfl
  unfold c_poly_times ptD
  walk_at "ev"
  intro d hd
  refine forD_by (fun r σ g => ∃ done rest : Pol, p1 = done ++ rest ∧ r = rest.map prD ∧ g = updD h d (.lst ((mulP done p2).map prD)) ∧ ∃ o3 o4, σ = [some (.tup (p1.map prD)), some (.tup (p2.map prD)), some (.ref d), o3, o4, none, none]) ?_ ?_ _ _ _ ⟨[], p1, rfl, rfl, rfl, _, _, rfl⟩
  · rintro x r σ g ⟨done, rest, e, er, rfl, o3, o4, rfl⟩ N hN
    refine ⟨trivial, ?_⟩
    cases rest with
    | nil => cases er
    | cons t rest =>
      rw [List.map_cons] at er
      cases er
      have e0 : prD t = .tup [pwD t.1, fD t.2] := rfl
      rw [e0]
      walk_at "ev"
      have ht : t ∈ p1 := by rw [e]; simp
      refine ⟨by simp only [lstAt, updD_same], ?_⟩
      refine lcD_maps prD (fun u => some (prD (addPw t.1 u.1, t.2 * u.2))) trivial _ _ (fun u hu K1 K0 hK => ?_) (by rw [List.length_nil]; omega) ?_
      · have e1 : prD u = .tup [pwD u.1, fD u.2] := rfl
        rw [e1]
        walk_at "ev"
        refine x_powers_added (hm t ht) ?_
        walk_at "ev"
        exact x_times (hb1 t ht) (hb2 u hu) (by omega) hK
      · have ez : List.filterMap (fun u : List Int × Rat => some (prD (addPw t.1 u.1, t.2 * u.2))) p2 = (p2.map fun u => (addPw t.1 u.1, t.2 * u.2)).map prD := by
          show List.filterMap (some ∘ fun u : List Int × Rat => prD (addPw t.1 u.1, t.2 * u.2)) p2 = _
          rw [List.filterMap_eq_map, List.map_map]
          rfl
        rw [ez, List.nil_append]
        have em : mulP (done ++ [t]) p2 = mulP done p2 ++ p2.map fun u => (addPw t.1 u.1, t.2 * u.2) := by simp [mulP]
        have hlen : done.length + 1 ≤ p1.length := by rw [e, List.length_append, List.length_cons]; omega
        have hlm : (mulP (done ++ [t]) p2).length ≤ 9000 := by
          rw [mulP_len, List.length_append, List.length_singleton]
          have h1 : (done.length + 1) * p2.length ≤ p1.length * p2.length := Nat.mul_le_mul_right _ hlen
          have h2 : p1.length * p2.length ≤ p1.length * p2.length * (b1 + b2 + 1) := Nat.le_mul_of_pos_right _ (by omega)
          omega
        refine ext_r updD_same ?_ ?_
        · rw [em, List.length_append] at hlm
          rw [List.length_map, List.length_map]
          omega
        · rw [updD_upd, ← List.map_append, ← em]
          exact hN _ _ ⟨done ++ [t], rest, by simp [e], rfl, rfl, _, _, rfl⟩
  · rintro σ g ⟨done, rest, e, er, rfl, o3, o4, rfl⟩
    refine ⟨trivial, ?_⟩
    have : rest = [] := by
      cases rest with
      | nil => rfl
      | cons t rest => cases er
    subst this
    rw [List.append_nil] at e
    subst e
    walk_at "ev"
    rw [frz_r updD_same, delD_updD hd]
    refine x_poly hL (.inr rfl) hne (b := b1 + b2) (fun t ht => ?_) ?_ q
    · unfold mulP at ht
      obtain ⟨a, ha, ht⟩ := List.mem_flatMap.mp ht
      obtain ⟨u, hu, rfl⟩ := List.mem_map.mp ht
      exact (hb1 a ha).mul (hb2 u hu)
    · rw [mulP_len]
      omega
end
end U

/-! Ly: the order of pairs; one sorted form of each polynomial; the program's poly. -/
namespace U
open PySem Deep
local macro_rules | `(tactic| walk_at "ev") => `(tactic| try simp only [es_nil, es_cons, es_asg, es_par, es_sub, es_exp, es_ret, es_retN, es_ite, es_for, es_brk, es_cnt, es_pas, tn_nm, tn_tp, tns_nil, tns_cons, tnsLen,
  ev_v0, ev_vs, ev_cst, ev_glb, ev_typ, ev_op, ev_neg, ev_cmp, ev_chn, ev_and, ev_or, ev_not, ev_ite, ev_tup, ev_lst, ev_ix, ev_sl, ev_call, ev_bi, ev_mt, ev_tm, isStr_s, ev_dnew, ev_dget, ev_mxd, ev_lrng, lrng_i, dnew_t, dnew_k, es_frz, fz_some, walk_dt, walk_dk, ev_frz, ev_lc, ea_nil, ea_cons, ean_nil, ean_cons, eor_nil, eor_cons, eo_non, eo_som, ec_non, ec_som, ei_ex, ei_rng, ei_enm, ei_zip, ei_rev,
  bD_bl, tn_fD, len_fD, kit_fD, walk_fD, ix_f0, ix_f1, op_add_i, op_add_s, op_add_t, op_add_l, op_sub_i, op_mul_i, op_mul_s, op_mul_l, op_fdiv_i, op_mod_i, op_pow_i, neg_i, cmp_eq, cmp_ne, eq_i, eq_s, eq_b, cmp_lt, cmp_le, cmp_gt, cmp_ge, ix_tup, ix_lst, ix_box, ix_scr, at_some, lc_nil, lc_cons, newL_f, newL_t, newL_b, len_str, len_tup, len_lst, len_scr, bi_abs, bi_max2, bi_min2, bi_int_i, bi_int_b, bi_tup_t, bi_tup_l, set_box, walk_tup, walk_lst, walk_str, rng_1, rng_2, sl_tup, sl_lst, sl_scr, wipe_nil, wipe_cons, bi_isi, kit_tup, kit_int, kit_str, kit_bl, kit_non, kit_lst, kb_tt, kb_ii, kb_ib, kb_ll, kb_it, kb_lt, kb_tl, kb_ss, w_plus_plus, w_plus_less, w_plus_times, w_plus_over, w_plus_number, w_plus_letter, w_less_plus, w_less_less, w_less_times, w_less_over, w_less_number, w_less_letter, w_times_plus, w_times_less, w_times_times, w_times_over, w_times_number, w_times_letter, w_over_plus, w_over_less, w_over_times, w_over_over, w_over_number, w_over_letter, w_number_plus, w_number_less, w_number_times, w_number_over, w_number_number, w_number_letter, w_letter_plus, w_letter_less, w_letter_times, w_letter_over, w_letter_number, w_letter_letter, in_plus, in_less, in_times, in_over, in_number, in_letter, at_0, at_1, at_2, cmp_inn_t, cmp_notin_t, flat_s, all_ss,
  startD, List.map_cons, List.map_nil, List.length_cons, List.length_nil, List.replicate, Nat.sub_self, Nat.reduceSub, List.cons_append, List.nil_append, List.append_nil, List.getElem?_cons_zero, List.getElem?_cons_succ, List.set_cons_zero, List.set_cons_succ, Nat.reduceAdd, Nat.zero_add, Nat.add_zero, decide_eq_true_eq, Bool.false_eq_true, if_false, if_true, reduceIte, Bool.not_true, Bool.not_false, Bool.not_eq_true', decide_eq_false_iff_not, ite_not, decide_true, decide_false, eq_self_iff_true, List.length_map, true_and, and_true, reduceCtorEq, Bool.true_eq_false, sizeLine_eq, Nat.reduceLeDiff])
set_option hygiene false in
local macro_rules | `(tactic| walk_at "evt") => `(tactic| simp only [es_nil, es_cons, es_asg, es_par, es_sub, es_exp, es_ret, es_retN, es_ite, es_for, es_brk, es_cnt, es_pas, tn_nm, tn_tp, tns_nil, tns_cons, tnsLen,
  ev_v0, ev_vs, ev_cst, ev_glb, ev_typ, ev_op, ev_neg, ev_cmp, ev_chn, ev_and, ev_or, ev_not, ev_ite, ev_tup, ev_lst, ev_ix, ev_sl, ev_call, ev_bi, ev_mt, ev_tm, isStr_s, ev_dnew, ev_dget, ev_mxd, ev_lrng, lrng_i, dnew_t, dnew_k, es_frz, fz_some, walk_dt, walk_dk, ev_frz, ev_lc, ea_nil, ea_cons, ean_nil, ean_cons, eor_nil, eor_cons, eo_non, eo_som, ec_non, ec_som, ei_ex, ei_rng, ei_enm, ei_zip, ei_rev,
  bD_bl, tn_fD, len_fD, kit_fD, walk_fD, ix_f0, ix_f1, op_add_i, op_add_s, op_add_t, op_add_l, op_sub_i, op_mul_i, op_mul_s, op_mul_l, op_fdiv_i, op_mod_i, op_pow_i, neg_i, cmp_eq, cmp_ne, eq_i, eq_s, eq_b, cmp_lt, cmp_le, cmp_gt, cmp_ge, ix_tup, ix_lst, ix_box, ix_scr, at_some, lc_nil, lc_cons, newL_f, newL_t, newL_b, len_str, len_tup, len_lst, len_scr, bi_abs, bi_max2, bi_min2, bi_int_i, bi_int_b, bi_tup_t, bi_tup_l, set_box, walk_tup, walk_lst, walk_str, rng_1, rng_2, sl_tup, sl_lst, sl_scr, wipe_nil, wipe_cons, bi_isi, kit_tup, kit_int, kit_str, kit_bl, kit_non, kit_lst, kb_tt, kb_ii, kb_ib, kb_ll, kb_it, kb_lt, kb_tl, kb_ss, w_plus_plus, w_plus_less, w_plus_times, w_plus_over, w_plus_number, w_plus_letter, w_less_plus, w_less_less, w_less_times, w_less_over, w_less_number, w_less_letter, w_times_plus, w_times_less, w_times_times, w_times_over, w_times_number, w_times_letter, w_over_plus, w_over_less, w_over_times, w_over_over, w_over_number, w_over_letter, w_number_plus, w_number_less, w_number_times, w_number_over, w_number_number, w_number_letter, w_letter_plus, w_letter_less, w_letter_times, w_letter_over, w_letter_number, w_letter_letter, in_plus, in_less, in_times, in_over, in_number, in_letter, at_0, at_1, at_2, cmp_inn_t, cmp_notin_t, flat_s, all_ss,
  startD, List.map_cons, List.map_nil, List.length_cons, List.length_nil, List.replicate, Nat.sub_self, Nat.reduceSub, List.cons_append, List.nil_append, List.append_nil, List.getElem?_cons_zero, List.getElem?_cons_succ, List.set_cons_zero, List.set_cons_succ, Nat.reduceAdd, Nat.zero_add, Nat.add_zero, decide_eq_true_eq, Bool.false_eq_true, if_false, if_true, reduceIte, Bool.not_true, Bool.not_false, Bool.not_eq_true', decide_eq_false_iff_not, ite_not, decide_true, decide_false, eq_self_iff_true, List.length_map, true_and, and_true, reduceCtorEq, Bool.true_eq_false, sizeLine_eq, Nat.reduceLeDiff] at tl)
theorem ly0 : True := trivial
section
variable {L : String → Option Df} {k : Nat} {h : DH} {Q : DQ} {E : XQ}
theorem x_lplus (hL : L "_law_plus" = some c__law_plus) {a b : Rat} {m n : Nat} (ha : RB a m) (hb : RB b n) (hl : m + n ≤ 9000) (q : Q (fD (a + b)) h) : callD (tabOf L) (k + 2) "_law_plus" [fD a, fD b] h Q E := by
  refine call_of c__law_plus (show tabOf L "_law_plus" = some c__law_plus from hL) rfl ?_
  unfold c__law_plus
  walk_at "ev"
  refine ⟨mulok ha.nn hb.dn (by omega), mulok hb.nn ha.dn (by omega), mulok ha.dn hb.dn (by omega), ?_⟩
  refine x_lfraction (Int.mul_ne_zero (den_ne a) (den_ne b)) (den_bd ha hb hl) ?_
  rw [← Rat.divInt_add_divInt _ _ (den_ne a) (den_ne b), Rat.num_divInt_den, Rat.num_divInt_den]
  exact q
theorem x_ltimes (hL : L "_law_times" = some c__law_times) {a b : Rat} {m n : Nat} (ha : RB a m) (hb : RB b n) (hl : m + n ≤ 9000) (q : Q (fD (a * b)) h) : callD (tabOf L) (k + 2) "_law_times" [fD a, fD b] h Q E := by
  refine call_of c__law_times (show tabOf L "_law_times" = some c__law_times from hL) rfl ?_
  unfold c__law_times
  walk_at "ev"
  refine ⟨mulok ha.nn hb.nn (by omega), mulok ha.dn hb.dn (by omega), ?_⟩
  refine x_lfraction (Int.mul_ne_zero (den_ne a) (den_ne b)) (den_bd ha hb hl) ?_
  rw [← Rat.divInt_mul_divInt, Rat.num_divInt_den, Rat.num_divInt_den]
  exact q
end
/-! ### numbers over one denominator -/
/-- so many N-th parts, at most K -/
def FB (q : Rat) (N K : Nat) : Prop := ∃ i : Int, q = Rat.divInt i N ∧ i.natAbs ≤ K
theorem FB.zero {N K : Nat} : FB 0 N K := ⟨0, by simp, by simp⟩
theorem FB.mono {q : Rat} {N K K' : Nat} (h : FB q N K) (hk : K ≤ K') : FB q N K' := by
  obtain ⟨i, e, z⟩ := h
  exact ⟨i, e, by omega⟩
theorem FB.add {a b : Rat} {N K M : Nat} (hN : 0 < N) (ha : FB a N K) (hb : FB b N M) : FB (a + b) N (K + M) := by
  obtain ⟨i, rfl, zi⟩ := ha
  obtain ⟨j, rfl, zj⟩ := hb
  refine ⟨i + j, ?_, ?_⟩
  · have hN' : (N : Int) ≠ 0 := by omega
    rw [Rat.divInt_add_divInt _ _ hN' hN', ← Int.add_mul, Rat.divInt_mul_right hN']
  · have := Int.natAbs_add_le i j
    omega
theorem FB.neg {a : Rat} {N K : Nat} (ha : FB a N K) : FB (-a) N K := by
  obtain ⟨i, rfl, zi⟩ := ha
  exact ⟨-i, by rw [Rat.neg_divInt], by rw [Int.natAbs_neg]; exact zi⟩
theorem FB.mul {a b : Rat} {N K M J : Nat} (ha : FB a N K) (hb : FB b M J) : FB (a * b) (N * M) (K * J) := by
  obtain ⟨i, rfl, zi⟩ := ha
  obtain ⟨j, rfl, zj⟩ := hb
  refine ⟨i * j, ?_, ?_⟩
  · rw [Rat.divInt_mul_divInt, Int.natCast_mul]
  · rw [Int.natAbs_mul]
    exact Nat.mul_le_mul zi zj
theorem FB.up {a : Rat} {N K : Nat} (M : Nat) (hM : 0 < M) (ha : FB a N K) : FB a (N * M) (K * M) := by
  obtain ⟨i, rfl, zi⟩ := ha
  have hM' : (M : Int) ≠ 0 := by omega
  refine ⟨i * M, ?_, ?_⟩
  · rw [Int.natCast_mul, Rat.divInt_mul_right hM']
  · rw [Int.natAbs_mul, Int.natAbs_natCast]
    exact Nat.mul_le_mul_right _ zi
theorem FB.rb {a : Rat} {N K n : Nat} (hN : 0 < N) (h1 : N < 2 ^ n) (h2 : K < 2 ^ n) (ha : FB a N K) : RB a n := by
  obtain ⟨i, rfl, zi⟩ := ha
  have hN' : (N : Int) ≠ 0 := by omega
  refine RB.divInt (by omega) ?_ hN'
  rw [Int.natAbs_natCast]
  exact h1
/-- n/d with d a part of N -/
theorem FB.of {n d : Int} {N : Nat} {c K : Nat} (hd : d ≠ 0) (hN : d * c = N) (hc : 0 < c) (hK : n.natAbs * c ≤ K) : FB (Rat.divInt n d) N K := by
  have hc' : (c : Int) ≠ 0 := by omega
  refine ⟨n * c, ?_, ?_⟩
  · rw [← hN, Rat.divInt_mul_right hc']
  · rw [Int.natAbs_mul, Int.natAbs_natCast]
    exact hK
/-! ### powers and values -/
def powQ (f : Rat) : Nat → Rat
  | 0 => 1
  | n + 1 => powQ f n * f
theorem RB.one {n : Nat} (h : 1 ≤ n) : RB 1 n := by
  have : 2 ^ 1 ≤ 2 ^ n := Nat.pow_le_pow_right (by decide) h
  exact ⟨by show 1 < 2 ^ n; omega, by show 1 < 2 ^ n; omega⟩
theorem RB.pow {f : Rat} {b : Nat} (h : RB f b) : ∀ n : Nat, RB (powQ f n) (n * b + 1)
  | 0 => RB.one (by omega)
  | n + 1 => ((h.pow n).mul h).mono' (by rw [Nat.succ_mul]; omega)
def pow_of (s : Str) : Df := ⟨"power_of", 2, 4, (.cons (.asg (.nm 2) (.glb s (.tup [(.int 1), (.int 1)]))) (.cons (.for (.nm 3) (.rng (.cons (.var 1) .nil)) (.cons (.asg (.nm 2) (.call "times" (.cons (.var 2) (.cons (.var 0) .nil)))) .nil)) (.cons (.ret (.var 2)) .nil)))⟩
def val_of (s : Str) : Df := ⟨"value", 2, 7, (.cons (.asg (.nm 2) (.glb s (.tup [(.int 0), (.int 1)]))) (.cons (.for (.tp (.cons (.nm 3) (.cons (.nm 4) .nil))) (.ex (.var 0)) (.cons (.for (.tp (.cons (.nm 5) (.cons (.nm 6) .nil))) (.zip (.var 3) (.var 1)) (.cons (.asg (.nm 4) (.call "times" (.cons (.var 4) (.cons (.call "power_of" (.cons (.var 6) (.cons (.var 5) .nil))) .nil)))) .nil)) (.cons (.asg (.nm 2) (.call "plus" (.cons (.var 2) (.cons (.var 4) .nil)))) .nil))) (.cons (.ret (.var 2)) .nil)))⟩
section
variable {L : String → Option Df} {k : Nat} {h : DH} {Q : DQ} {E : XQ}
theorem x_power_of (s : Str) (hL : L "power_of" = some (pow_of s)) {f : Rat} {n b : Nat} (hb : RB f b) (hl : (n + 1) * (b + 1) ≤ 9000) (q : Q (fD (powQ f n)) h) : callD (tabOf L) (k + 4) "power_of" [fD f, .int (n : Int)] h Q E := by
  refine call_of (pow_of s) (show tabOf L "power_of" = some (pow_of s) from hL) rfl ?_
  have hn : n + 1 ≤ 9000 := Nat.le_trans (Nat.le_mul_of_pos_right _ (by omega)) hl
  unfold pow_of
  walk_at "ev"
  refine ⟨by omega, by omega, ?_⟩
  refine forD_by (fun r σ g => g = h ∧ ∃ j : Nat, j + r.length = n ∧ ∃ o, σ = [some (fD f), some (.int (n : Int)), some (fD (powQ f j)), o]) ?_ ?_ _ _ _ ⟨rfl, 0, by rw [rngL_len]; simp, _, rfl⟩
  · rintro x r σ g ⟨rfl, j, hj, o, rfl⟩ N hN
    rw [List.length_cons] at hj
    refine ⟨trivial, ?_⟩
    walk_at "ev"
    have h1 : (j + 1) * (b + 1) ≤ (n + 1) * (b + 1) := Nat.mul_le_mul_right _ (by omega)
    have h2 : (j + 1) * (b + 1) = j * b + j + b + 1 := by rw [Nat.succ_mul, Nat.mul_succ]; omega
    exact x_times (hb.pow j) hb (by omega) (hN _ _ ⟨rfl, j + 1, by omega, _, rfl⟩)
  · rintro σ g ⟨rfl, j, hj, o, rfl⟩
    refine ⟨trivial, ?_⟩
    rw [List.length_nil, Nat.add_zero] at hj
    subst hj
    walk_at "ev"
    exact q
theorem zipL_pf : ∀ (a : List Int) (b : List Rat), zipL (a.map D.int) (b.map fD) = (a.zip b).map fun z => .tup [.int z.1, fD z.2]
  | [], _ => by simp [zipL]
  | _ :: _, [] => by simp [zipL]
  | x :: a, y :: b => by simp only [List.map_cons, zipL, List.zip_cons_cons, zipL_pf a b]
/-- a number times powers -/
def monQ (f : Rat) (zs : List (Int × Rat)) : Rat := zs.foldl (fun f z => f * powQ z.2 z.1.toNat) f
def valQ (pt : List Rat) (p : Pol) : Rat := p.foldl (fun s t => s + monQ t.2 (t.1.zip pt)) 0
theorem RB.mon {bp e : Nat} : ∀ (zs : List (Int × Rat)) {f : Rat} {b : Nat}, RB f b → (∀ z ∈ zs, RB z.2 bp ∧ z.1.toNat ≤ e) → RB (monQ f zs) (b + zs.length * (e * bp + 1))
  | [], f, b, hf, _ => by simpa [monQ] using hf
  | z :: zs, f, b, hf, hz => by
    have h1 := hz z (List.mem_cons_self ..)
    have h2 : z.1.toNat * bp ≤ e * bp := Nat.mul_le_mul_right _ h1.2
    have h3 := RB.mon zs (hf.mul ((h1.1.pow z.1.toNat).mono' (show _ ≤ e * bp + 1 by omega))) fun y hy => hz y (List.mem_cons_of_mem _ hy)
    unfold monQ at h3 ⊢
    rw [List.foldl_cons]
    refine h3.mono' ?_
    rw [List.length_cons, Nat.succ_mul]
    omega
theorem mon_snoc (f : Rat) (zs : List (Int × Rat)) (z : Int × Rat) : monQ f (zs ++ [z]) = monQ f zs * powQ z.2 z.1.toNat := by simp [monQ]
theorem val_snoc (pt : List Rat) (p : Pol) (t : List Int × Rat) : valQ pt (p ++ [t]) = valQ pt p + monQ t.2 (t.1.zip pt) := by simp [valQ]
def ptsD (pt : List Rat) : D := .tup (pt.map fD)
theorem x_value (s s2 : Str) (hL : L "power_of" = some (pow_of s)) (hL2 : L "value" = some (val_of s2)) {p : Pol} {pt : List Rat} {b bp e c : Nat} (hz : p.length ≤ 1000000)
    (hb : ∀ t ∈ p, RB t.2 b) (hbp : ∀ f ∈ pt, RB f bp) (he : ∀ t ∈ p, ∀ n ∈ t.1, 0 ≤ n ∧ n ≤ (e : Int)) (hpl : pt.length ≤ 3) (hl : b + 3 * (e * bp + 1) ≤ 4000) (hle : (e + 1) * (bp + 1) ≤ 4000)
    (hc : ∀ done rest, p = done ++ rest → RB (valQ pt done) c) (hcl : c ≤ 4000) (q : Q (fD (valQ pt p)) h) : callD (tabOf L) (k + 5) "value" [ptD p, ptsD pt] h Q E := by
  refine call_of (val_of s2) (show tabOf L "value" = some (val_of s2) from hL2) rfl ?_
  unfold val_of ptD ptsD
  walk_at "ev"
  refine forD_by (fun r σ g => g = h ∧ ∃ done rest : Pol, p = done ++ rest ∧ r = rest.map prD ∧ ∃ o3 o4 o5 o6, σ = [some (.tup (p.map prD)), some (.tup (pt.map fD)), some (fD (valQ pt done)), o3, o4, o5, o6]) ?_ ?_ _ _ _ ⟨rfl, [], p, rfl, rfl, _, _, _, _, rfl⟩
  · rintro x r σ g ⟨rfl, done, rest, e1, er, o3, o4, o5, o6, rfl⟩ N hN
    refine ⟨trivial, ?_⟩
    cases rest with
    | nil => cases er
    | cons t rest =>
      rw [List.map_cons] at er
      cases er
      have ht : t ∈ p := by rw [e1]; simp
      have e0 : prD t = .tup [pwD t.1, fD t.2] := rfl
      rw [e0]
      unfold pwD
      walk_at "ev"
      rw [zip_tt, zipL_pf]
      have hzl : (t.1.zip pt).length ≤ 3 := by rw [List.length_zip]; omega
      have hzm : ∀ z ∈ t.1.zip pt, RB z.2 bp ∧ (0 ≤ z.1 ∧ z.1.toNat ≤ e) := fun z hz => by
        have h1 := List.of_mem_zip (a := z.1) (b := z.2) hz
        have h2 := he t ht z.1 h1.1
        exact ⟨hbp _ h1.2, h2.1, by omega⟩
      refine forD_by (fun r σ g' => g' = g ∧ ∃ d2 r2 : List (Int × Rat), t.1.zip pt = d2 ++ r2 ∧ r = r2.map (fun z => .tup [.int z.1, fD z.2]) ∧ ∃ o5 o6, σ = [some (.tup (p.map prD)), some (.tup (pt.map fD)), some (fD (valQ pt done)), some (.tup (t.1.map D.int)), some (fD (monQ t.2 d2)), o5, o6]) ?_ ?_ _ _ _ ⟨rfl, [], _, rfl, rfl, _, _, rfl⟩
      · rintro x r σ g' ⟨rfl, d2, r2, e2, er2, o5, o6, rfl⟩ N2 hN2
        refine ⟨trivial, ?_⟩
        cases r2 with
        | nil => cases er2
        | cons z r2 =>
          rw [List.map_cons] at er2
          cases er2
          have hz1 : z ∈ t.1.zip pt := by rw [e2]; simp
          obtain ⟨h1, h2, h3⟩ := hzm z hz1
          have hi : z.1 = ((z.1.toNat : Nat) : Int) := by omega
          walk_at "ev"
          rw [hi]
          have h4 : (z.1.toNat + 1) * (bp + 1) ≤ (e + 1) * (bp + 1) := Nat.mul_le_mul_right _ (by omega)
          refine x_power_of s hL h1 (by omega) ?_
          have h5 : z.1.toNat * bp ≤ e * bp := Nat.mul_le_mul_right _ h3
          have h6 : RB (monQ t.2 d2) (b + d2.length * (e * bp + 1)) := RB.mon d2 (hb t ht) fun y hy => by
            have := hzm y (by rw [e2]; simp [hy])
            exact ⟨this.1, this.2.2⟩
          have h7 : d2.length + 1 ≤ 3 := by
            rw [e2, List.length_append, List.length_cons] at hzl
            omega
          have h8 : (d2.length + 1) * (e * bp + 1) ≤ 3 * (e * bp + 1) := Nat.mul_le_mul_right _ h7
          rw [Nat.succ_mul] at h8
          refine x_times h6 (h1.pow z.1.toNat) (by omega) ?_
          exact hN2 _ _ ⟨rfl, d2 ++ [z], r2, by simp [e2], rfl, _, _, by rw [mon_snoc]⟩
      · rintro σ g' ⟨rfl, d2, r2, e2, er2, o5, o6, rfl⟩
        refine ⟨trivial, ?_⟩
        have : r2 = [] := by
          cases r2 with
          | nil => rfl
          | cons z r2 => cases er2
        subst this
        rw [List.append_nil] at e2
        subst e2
        walk_at "ev"
        have h6 : RB (monQ t.2 (t.1.zip pt)) (b + (t.1.zip pt).length * (e * bp + 1)) := RB.mon _ (hb t ht) fun y hy => ⟨(hzm y hy).1, (hzm y hy).2.2⟩
        have h8 : (t.1.zip pt).length * (e * bp + 1) ≤ 3 * (e * bp + 1) := Nat.mul_le_mul_right _ hzl
        refine x_plus (hc done _ e1) h6 (by omega) ?_
        exact hN _ _ ⟨rfl, done ++ [t], rest, by simp [e1], rfl, _, _, _, _, by rw [val_snoc]⟩
  · rintro σ g ⟨rfl, done, rest, e1, er, o3, o4, o5, o6, rfl⟩
    refine ⟨trivial, ?_⟩
    have : rest = [] := by
      cases rest with
      | nil => rfl
      | cons t rest => cases er
    subst this
    rw [List.append_nil] at e1
    subst e1
    walk_at "ev"
    exact q
end
end U

/-! Lh: tuples of small ints have different hashes. -/
namespace U
open PySem Deep
/-- a hash of ints -/
def hzI (ns : List Int) : Int := reduceHash (Builtin.Tuple.tupleHashOf (ns.map hashInt))
theorem hash_pw (w : World) (ns : List Int) : (pwK ns).hash w = hzI ns := by
  have e : ∀ ns : List Int, NestedKey.hashes w (ns.map .num) = ns.map hashInt := by
    intro ns
    induction ns with
    | nil => rfl
    | cons n ns ih => simp only [List.map_cons, NestedKey.hashes, NestedKey.hash, ih]
  simp only [pwK, NestedKey.hash, e, hzI]
def tupsN : Nat → Nat → List (List Int)
  | _, 0 => [[]]
  | b, m + 1 => (tupsN b m).flatMap fun t => (List.range b).map fun i : Nat => (i : Int) :: t
theorem tupsN_mem {b : Nat} : ∀ {m : Nat} {ns : List Int}, ns.length = m → (∀ n ∈ ns, 0 ≤ n ∧ n < (b : Int)) → ns ∈ tupsN b m
  | 0, [], _, _ => by simp [tupsN]
  | m + 1, n :: ns, hl, hn => by
    unfold tupsN
    rw [List.mem_flatMap]
    have h1 := hn n (List.mem_cons_self ..)
    refine ⟨ns, tupsN_mem (by simpa using hl) fun x hx => hn x (List.mem_cons_of_mem _ hx), ?_⟩
    rw [List.mem_map]
    exact ⟨n.toNat, by rw [List.mem_range]; omega, by rw [show ((n.toNat : Nat) : Int) = n by omega]⟩
def codeN (ns : List Int) : Nat := (hzI ns + 9223372036854775808).toNat
def ndB : List Nat → Bool
  | [] => true
  | x :: xs => xs.all (fun y => !Nat.beq x y) && ndB xs
theorem ndB_inj {α : Type} {f : α → Nat} : ∀ {l : List α}, ndB (l.map f) = true → ∀ a ∈ l, ∀ b ∈ l, f a = f b → a = b
  | [], _, a, ha, _, _, _ => nomatch ha
  | x :: l, h, a, ha, b, hb, e => by
    rw [List.map_cons, ndB, Bool.and_eq_true, List.all_eq_true] at h
    have hx : ∀ y ∈ l, f x ≠ f y := fun y hy e => by
      have := h.1 (f y) (List.mem_map_of_mem hy)
      rw [e, Nat.beq_refl] at this
      cases this
    rcases List.mem_cons.mp ha with z1 | h1
    · rcases List.mem_cons.mp hb with z2 | h2
      · rw [z1, z2]
      · subst z1
        exact absurd e (hx b h2)
    · rcases List.mem_cons.mp hb with z2 | h2
      · subst z2
        exact absurd e.symm (hx a h1)
      · exact ndB_inj h.2 a h1 b h2 e
theorem tst1 : ndB ((tupsN 4 1).map codeN) = true := by decide +kernel
theorem tst2 : ndB ((tupsN 4 2).map codeN) = true := by decide +kernel
theorem tst3 : ndB ((tupsN 4 3).map codeN) = true := by decide +kernel
theorem hash_nodup {m b : Nat} {top : Int} {p : Pol} (hp : PolOk m top b p) (ht : top ≤ 4) (hm : 1 ≤ m ∧ m ≤ 3) (w : World) : ((pkK p).map fun x => x.1.hash w).Nodup := by
  have e : ((pkK p).map fun x => x.1.hash w) = (p.map fun t => t.1).map hzI := by
    unfold pkK
    rw [List.map_map, List.map_map]
    exact List.map_congr_left fun t _ => hash_pw w t.1
  rw [e]
  have hall : ndB ((tupsN 4 m).map codeN) = true := by
    rcases hm with ⟨h1, h2⟩
    have : m = 1 ∨ m = 2 ∨ m = 3 := by omega
    rcases this with rfl | rfl | rfl
    · exact tst1
    · exact tst2
    · exact tst3
  have hmem : ∀ ns ∈ p.map (fun t => t.1), ns ∈ tupsN 4 m := fun ns hns => by
    obtain ⟨t, ht', rfl⟩ := List.mem_map.mp hns
    refine tupsN_mem (hp.ln t ht') fun n hn => ?_
    have := hp.pw t ht' n hn
    exact ⟨this.1, by omega⟩
  unfold List.Nodup
  rw [List.pairwise_map]
  refine List.Pairwise.imp_of_mem ?_ hp.nd
  intro a b ha hb hne he
  exact hne (ndB_inj hall a (hmem a ha) b (hmem b hb) (by unfold codeN; rw [he]))
end U

/-! Lz: the order of pairs; one sorted form of each polynomial; the program's poly. -/
namespace U
open PySem Deep
local macro_rules | `(tactic| walk_at "ev") => `(tactic| try simp only [es_nil, es_cons, es_asg, es_par, es_sub, es_exp, es_ret, es_retN, es_ite, es_for, es_brk, es_cnt, es_pas, tn_nm, tn_tp, tns_nil, tns_cons, tnsLen,
  ev_v0, ev_vs, ev_cst, ev_glb, ev_typ, ev_op, ev_neg, ev_cmp, ev_chn, ev_and, ev_or, ev_not, ev_ite, ev_tup, ev_lst, ev_ix, ev_sl, ev_call, ev_bi, ev_mt, ev_tm, isStr_s, ev_dnew, ev_dget, ev_mxd, ev_lrng, lrng_i, dnew_t, dnew_k, es_frz, fz_some, walk_dt, walk_dk, ev_frz, ev_lc, ea_nil, ea_cons, ean_nil, ean_cons, eor_nil, eor_cons, eo_non, eo_som, ec_non, ec_som, ei_ex, ei_rng, ei_enm, ei_zip, ei_rev,
  bD_bl, tn_fD, len_fD, kit_fD, walk_fD, ix_f0, ix_f1, op_add_i, op_add_s, op_add_t, op_add_l, op_sub_i, op_mul_i, op_mul_s, op_mul_l, op_fdiv_i, op_mod_i, op_pow_i, neg_i, cmp_eq, cmp_ne, eq_i, eq_s, eq_b, cmp_lt, cmp_le, cmp_gt, cmp_ge, ix_tup, ix_lst, ix_box, ix_scr, at_some, lc_nil, lc_cons, newL_f, newL_t, newL_b, len_str, len_tup, len_lst, len_scr, bi_abs, bi_max2, bi_min2, bi_int_i, bi_int_b, bi_tup_t, bi_tup_l, set_box, walk_tup, walk_lst, walk_str, rng_1, rng_2, sl_tup, sl_lst, sl_scr, wipe_nil, wipe_cons, bi_isi, kit_tup, kit_int, kit_str, kit_bl, kit_non, kit_lst, kb_tt, kb_ii, kb_ib, kb_ll, kb_it, kb_lt, kb_tl, kb_ss, w_plus_plus, w_plus_less, w_plus_times, w_plus_over, w_plus_number, w_plus_letter, w_less_plus, w_less_less, w_less_times, w_less_over, w_less_number, w_less_letter, w_times_plus, w_times_less, w_times_times, w_times_over, w_times_number, w_times_letter, w_over_plus, w_over_less, w_over_times, w_over_over, w_over_number, w_over_letter, w_number_plus, w_number_less, w_number_times, w_number_over, w_number_number, w_number_letter, w_letter_plus, w_letter_less, w_letter_times, w_letter_over, w_letter_number, w_letter_letter, in_plus, in_less, in_times, in_over, in_number, in_letter, at_0, at_1, at_2, cmp_inn_t, cmp_notin_t, flat_s, all_ss,
  startD, List.map_cons, List.map_nil, List.length_cons, List.length_nil, List.replicate, Nat.sub_self, Nat.reduceSub, List.cons_append, List.nil_append, List.append_nil, List.getElem?_cons_zero, List.getElem?_cons_succ, List.set_cons_zero, List.set_cons_succ, Nat.reduceAdd, Nat.zero_add, Nat.add_zero, decide_eq_true_eq, Bool.false_eq_true, if_false, if_true, reduceIte, Bool.not_true, Bool.not_false, Bool.not_eq_true', decide_eq_false_iff_not, ite_not, decide_true, decide_false, eq_self_iff_true, List.length_map, true_and, and_true, reduceCtorEq, Bool.true_eq_false, sizeLine_eq, Nat.reduceLeDiff])
set_option hygiene false in
local macro_rules | `(tactic| walk_at "evt") => `(tactic| simp only [es_nil, es_cons, es_asg, es_par, es_sub, es_exp, es_ret, es_retN, es_ite, es_for, es_brk, es_cnt, es_pas, tn_nm, tn_tp, tns_nil, tns_cons, tnsLen,
  ev_v0, ev_vs, ev_cst, ev_glb, ev_typ, ev_op, ev_neg, ev_cmp, ev_chn, ev_and, ev_or, ev_not, ev_ite, ev_tup, ev_lst, ev_ix, ev_sl, ev_call, ev_bi, ev_mt, ev_tm, isStr_s, ev_dnew, ev_dget, ev_mxd, ev_lrng, lrng_i, dnew_t, dnew_k, es_frz, fz_some, walk_dt, walk_dk, ev_frz, ev_lc, ea_nil, ea_cons, ean_nil, ean_cons, eor_nil, eor_cons, eo_non, eo_som, ec_non, ec_som, ei_ex, ei_rng, ei_enm, ei_zip, ei_rev,
  bD_bl, tn_fD, len_fD, kit_fD, walk_fD, ix_f0, ix_f1, op_add_i, op_add_s, op_add_t, op_add_l, op_sub_i, op_mul_i, op_mul_s, op_mul_l, op_fdiv_i, op_mod_i, op_pow_i, neg_i, cmp_eq, cmp_ne, eq_i, eq_s, eq_b, cmp_lt, cmp_le, cmp_gt, cmp_ge, ix_tup, ix_lst, ix_box, ix_scr, at_some, lc_nil, lc_cons, newL_f, newL_t, newL_b, len_str, len_tup, len_lst, len_scr, bi_abs, bi_max2, bi_min2, bi_int_i, bi_int_b, bi_tup_t, bi_tup_l, set_box, walk_tup, walk_lst, walk_str, rng_1, rng_2, sl_tup, sl_lst, sl_scr, wipe_nil, wipe_cons, bi_isi, kit_tup, kit_int, kit_str, kit_bl, kit_non, kit_lst, kb_tt, kb_ii, kb_ib, kb_ll, kb_it, kb_lt, kb_tl, kb_ss, w_plus_plus, w_plus_less, w_plus_times, w_plus_over, w_plus_number, w_plus_letter, w_less_plus, w_less_less, w_less_times, w_less_over, w_less_number, w_less_letter, w_times_plus, w_times_less, w_times_times, w_times_over, w_times_number, w_times_letter, w_over_plus, w_over_less, w_over_times, w_over_over, w_over_number, w_over_letter, w_number_plus, w_number_less, w_number_times, w_number_over, w_number_number, w_number_letter, w_letter_plus, w_letter_less, w_letter_times, w_letter_over, w_letter_number, w_letter_letter, in_plus, in_less, in_times, in_over, in_number, in_letter, at_0, at_1, at_2, cmp_inn_t, cmp_notin_t, flat_s, all_ss,
  startD, List.map_cons, List.map_nil, List.length_cons, List.length_nil, List.replicate, Nat.sub_self, Nat.reduceSub, List.cons_append, List.nil_append, List.append_nil, List.getElem?_cons_zero, List.getElem?_cons_succ, List.set_cons_zero, List.set_cons_succ, Nat.reduceAdd, Nat.zero_add, Nat.add_zero, decide_eq_true_eq, Bool.false_eq_true, if_false, if_true, reduceIte, Bool.not_true, Bool.not_false, Bool.not_eq_true', decide_eq_false_iff_not, ite_not, decide_true, decide_false, eq_self_iff_true, List.length_map, true_and, and_true, reduceCtorEq, Bool.true_eq_false, sizeLine_eq, Nat.reduceLeDiff] at tl)
theorem lz0 : True := trivial
/-- one polynomial and so many times another -/
def addK (s : Int) (p1 p2 : Pol) : Pol := p2.foldl (fun p t => putP p t.1 (cf p t.1 + s * t.2)) p1
def kept (p : Pol) : Pol := p.filter fun t => decide (t.2 ≠ 0)
theorem addK_snoc (s : Int) (p1 p2 : Pol) (t : List Int × Rat) : addK s p1 (p2 ++ [t]) = putP (addK s p1 p2) t.1 (cf (addK s p1 p2) t.1 + s * t.2) := by simp [addK]
theorem kept_snoc (p : Pol) (t : List Int × Rat) : kept (p ++ [t]) = kept p ++ (if t.2 = 0 then [] else [t]) := by
  unfold kept
  rw [List.filter_append]
  by_cases e : t.2 = 0 <;> simp [e]
theorem putP_new {p : Pol} {ps : List Int} {q : Rat} (h : ps ∉ p.map fun t => t.1) : putP p ps q = p ++ [(ps, q)] := by
  unfold putP
  rw [if_neg]
  intro e
  obtain ⟨z, hz⟩ := Option.isSome_iff_exists.mp e
  exact h (List.mem_map.mpr ⟨_, mem_of_coef hz, rfl⟩)
theorem delD_two {h : DH} {d p : Addr} {X Y : MO} (hd : h d = none) (ne : p ≠ d) : delD (updD (updD h d X) p Y) d = updD h p Y := by
  funext b
  unfold delD updD
  by_cases e1 : b = d
  · rw [if_pos e1, if_neg (by rw [e1]; exact fun z => ne z.symm), e1, hd]
  · rw [if_neg e1, if_neg e1]
section
variable {L : String → Option Df} {k : Nat} {h : DH} {Q : DQ} {E : XQ}
theorem bi_dic {m b : Nat} {top : Int} {p : Pol} (hp : PolOk m top b p) (ht : top ≤ 4) (hm : 1 ≤ m ∧ m ≤ 3) (q : ∀ a, h a = none → Q (.ref a) (updD h a (.dT (pkK p)))) : biD .dic .t [pdD p] h Q := by
  have e : biD .dic .t [pdD p] h Q = ((∀ w : World, ((pkK p).map fun x => x.1.hash w).Nodup) ∧ (∀ x ∈ pkK p, ∃ ks, x.1 = .tup ks) ∧ ∀ a, h a = none → Q (.ref a) (updD h a (.dT (pkK p)))) := by
    unfold pdD
    simp only [biD, asD_dt]
  rw [e]
  refine ⟨hash_nodup hp ht hm, fun x hx => ?_, q⟩
  unfold pkK at hx
  obtain ⟨t, _, rfl⟩ := List.mem_map.mp hx
  exact ⟨_, rfl⟩
theorem x_poly_add (hL : L "_law_poly_add" = some c__law_poly_add) (hL2 : L "_law_plus" = some c__law_plus) {m b c : Nat} {top : Int} {s : Int} {p1 p2 : Pol} (hs : s = 1 ∨ s = -1) (hp1 : PolOk m top b p1) (nd2 : (p2.map fun t => t.1).Nodup) (hb2 : ∀ t ∈ p2, RB t.2 b)
    (ht : top ≤ 4) (hm : 1 ≤ m ∧ m ≤ 3) (hz : p1.length + p2.length ≤ 1000) (hbl : b ≤ 1000) (hcl : c ≤ 4000) (hc : ∀ done rest, p2 = done ++ rest → ∀ ps, RB (cf (addK s p1 done) ps) c) (ndf : ((addK s p1 p2).map fun t => t.1).Nodup) (hlen : ∀ done rest, p2 = done ++ rest → (addK s p1 done).length ≤ 1000) (q : Q (pdD (kept (addK s p1 p2))) h) :
    callD (tabOf L) (k + 3) "_law_poly_add" [pdD p1, pdD p2, .int s] h Q E := by
  refine call_of c__law_poly_add (show tabOf L "_law_poly_add" = some c__law_poly_add from hL) rfl ?_
  have sz : sizeLine = 16777216 := rfl
  unfold c__law_poly_add
  walk_at "ev"
  refine bi_dic hp1 ht hm fun d hd => ?_
  walk_at "ev"
  rw [walk_pd]
  refine forD_by (fun r σ g => ∃ done rest : Pol, p2 = done ++ rest ∧ r = rest.map (fun t => pwD t.1) ∧ g = updD h d (.dT (pkK (addK s p1 done))) ∧ ∃ o4 o5, σ = [some (pdD p1), some (pdD p2), some (.int s), some (.ref d), o4, o5, none]) ?_ ?_ _ _ _ ⟨[], p2, rfl, rfl, rfl, _, _, rfl⟩
  · rintro x r σ g ⟨done, rest, e1, er, rfl, o4, o5, rfl⟩ N hN
    refine ⟨trivial, ?_⟩
    cases rest with
    | nil => cases er
    | cons t rest =>
      rw [List.map_cons] at er
      cases er
      have ht2 : t ∈ p2 := by rw [e1]; simp
      have ec : valK (pkK p2) (pwK t.1) = some (fD t.2) := by rw [valK_pk, coef_of_mem nd2 ht2]; rfl
      walk_at "ev"
      unfold pdD
      rw [ix_dt]
      refine dget_dt (dKey_pw _) (keyOk_pw _) ec ?_
      rw [ix_f0]
      walk_at "ev"
      refine ⟨mulok (m := 1) (n := b) (by rcases hs with rfl | rfl <;> decide) (hb2 t ht2).nn (by omega), ?_⟩
      rw [ix_dt]
      refine dget_dt (dKey_pw _) (keyOk_pw _) ec ?_
      rw [ix_f1]
      walk_at "ev"
      have e2 : D.tup [.int (s * t.2.num), .int t.2.den] = fD (s * t.2) := by
        rcases hs with rfl | rfl
        · rw [Int.one_mul]
          show fD t.2 = fD (1 * t.2)
          rw [Rat.one_mul]
        · rw [Int.neg_mul, Int.one_mul]
          show fD (-t.2) = fD ((-1 : Rat) * t.2)
          rw [Rat.neg_mul, Rat.one_mul]
      have hb3 : RB ((s : Rat) * t.2) b := by
        rcases hs with rfl | rfl
        · show RB ((1 : Rat) * t.2) b
          rw [Rat.one_mul]
          exact hb2 t ht2
        · show RB ((-1 : Rat) * t.2) b
          rw [Rat.neg_mul, Rat.one_mul]
          exact (hb2 t ht2).neg
      rw [e2]
      refine ⟨isDic_t updD_same, dget2_t updD_same (dKey_pw t.1) (keyOk_pw t.1) ?_⟩
      have ev : ((valK (pkK (addK s p1 done)) (pwK t.1)).getD (.tup [.int 0, .int 1])) = fD (cf (addK s p1 done) t.1) := by
        rw [valK_pk]
        unfold cf
        cases coef (addK s p1 done) t.1 <;> rfl
      rw [ev]
      refine x_lplus hL2 (hc done _ e1 t.1) hb3 (by omega) ?_
      refine dset_t updD_same (dKey_pw t.1) (keyOk_pw t.1) ?_ ?_
      · show (List.map _ (addK s p1 done)).length < _
        rw [List.length_map]
        have := hlen done _ e1
        omega
      · rw [updD_upd, putD_pk]
        refine hN _ _ ⟨done ++ [t], rest, by simp [e1], rfl, ?_, _, _, rfl⟩
        rw [addK_snoc]
  · rintro σ g ⟨done, rest, e1, er, rfl, o4, o5, rfl⟩
    refine ⟨trivial, ?_⟩
    have : rest = [] := by
      cases rest with
      | nil => rfl
      | cons t rest => cases er
    subst this
    rw [List.append_nil] at e1
    subst e1
    walk_at "ev"
    intro a ha
    have ne : a ≠ d := fun z => by
      rw [z, updD_same] at ha
      cases ha
    rw [updD_ne ne] at ha
    rw [frz_rt (by rw [updD_ne (fun z => ne z.symm)]; exact updD_same), delD_two hd ne]
    show walkD (pdD (addK s p1 p2)) _ _
    rw [walk_pd]
    generalize hP : addK s p1 p2 = P at *
    have hPl : P.length ≤ 1000 := by
      have := hlen p2 [] (by simp)
      rw [hP] at this
      exact this
    refine forD_by (fun r σ g => ∃ done rest : Pol, P = done ++ rest ∧ r = rest.map (fun t => pwD t.1) ∧ g = updD h a (.dT (pkK (kept done))) ∧ ∃ o4 o5, σ = [some (pdD p1), some (pdD p2), some (.int s), some (pdD P), o4, o5, some (.ref a)]) ?_ ?_ _ _ _ ⟨[], P, rfl, rfl, rfl, _, _, rfl⟩
    · rintro x r σ g ⟨done, rest, e1, er, rfl, o4, o5, rfl⟩ N hN
      refine ⟨trivial, ?_⟩
      cases rest with
      | nil => cases er
      | cons t rest =>
        rw [List.map_cons] at er
        cases er
        have htP : t ∈ P := by rw [e1]; simp
        have ec : valK (pkK P) (pwK t.1) = some (fD t.2) := by rw [valK_pk, coef_of_mem ndf htP]; rfl
        walk_at "ev"
        unfold pdD
        rw [ix_dt]
        refine dget_dt (dKey_pw _) (keyOk_pw _) ec ?_
        rw [ix_f0]
        walk_at "ev"
        have hkl : (kept done).length ≤ 1000 := by
          have h1 : (kept done).length ≤ done.length := List.length_filter_le ..
          rw [e1, List.length_append] at hPl
          omega
        split
        · rename_i hz0
          have h0 : t.2 = 0 := Rat.num_eq_zero.mp (by simpa using hz0)
          refine hN _ _ ⟨done ++ [t], rest, by simp [e1], rfl, ?_, _, _, rfl⟩
          rw [kept_snoc, if_pos h0, List.append_nil]
        · rename_i hz0
          have h0 : ¬ t.2 = 0 := fun z => hz0 (by rw [z]; rfl)
          rw [ix_dt]
          refine dget_dt (dKey_pw _) (keyOk_pw _) ec ?_
          refine dset_t updD_same (dKey_pw _) (keyOk_pw _) (by show (List.map _ (kept done)).length < _; rw [List.length_map]; omega) ?_
          rw [updD_upd, putD_pk]
          refine hN _ _ ⟨done ++ [t], rest, by simp [e1], rfl, ?_, _, _, rfl⟩
          rw [kept_snoc, if_neg h0, putP_new]
          intro hm
          rw [e1, List.map_append, List.map_cons, List.nodup_append] at ndf
          obtain ⟨u, hu, eu⟩ := List.mem_map.mp hm
          exact ndf.2.2 u.1 (List.mem_map_of_mem (List.mem_filter.mp hu).1) t.1 (List.mem_cons_self ..) eu
    · rintro σ g ⟨done, rest, e1, er, rfl, o4, o5, rfl⟩
      refine ⟨trivial, ?_⟩
      have : rest = [] := by
        cases rest with
        | nil => rfl
        | cons t rest => cases er
      subst this
      rw [List.append_nil] at e1
      subst e1
      walk_at "ev"
      rw [frz_rt updD_same, delD_updD ha]
      exact q
end
end U

/-! Lk: plain facts on sums of pairs. -/
namespace U
open PySem Deep
theorem sumAt_gen (ps : List Int) : ∀ (ts : Pol) (s : Rat), ts.foldl (fun s t => if t.1 = ps then s + t.2 else s) s = s + sumAt ts ps
  | [], s => by simp [sumAt, Rat.add_zero]
  | t :: ts, s => by
    unfold sumAt
    rw [List.foldl_cons, List.foldl_cons, sumAt_gen ps ts, sumAt_gen ps ts (if t.1 = ps then 0 + t.2 else 0)]
    split
    · rw [Rat.zero_add, Rat.add_assoc]
    · rw [Rat.zero_add]
theorem sumAt_cons (ps : List Int) (t : List Int × Rat) (ts : Pol) : sumAt (t :: ts) ps = (if t.1 = ps then t.2 else 0) + sumAt ts ps := by
  show (t :: ts).foldl _ 0 = _
  rw [List.foldl_cons, sumAt_gen]
  split
  · rw [Rat.zero_add]
  · rfl
theorem sumAt_append (ps : List Int) (a b : Pol) : sumAt (a ++ b) ps = sumAt a ps + sumAt b ps := by
  show (a ++ b).foldl _ 0 = _
  rw [List.foldl_append, sumAt_gen]
  rfl
theorem sumAt_perm (ps : List Int) {a b : Pol} (h : a.Perm b) : sumAt a ps = sumAt b ps := by
  induction h with
  | nil => rfl
  | cons t _ ih => rw [sumAt_cons, sumAt_cons, ih]
  | swap s t l =>
    rw [sumAt_cons, sumAt_cons, sumAt_cons, sumAt_cons, ← Rat.add_assoc, ← Rat.add_assoc]
    congr 1
    exact Rat.add_comm _ _
  | trans _ _ h1 h2 => rw [h1, h2]
theorem sumAt_none (ps : List Int) : ∀ {p : Pol}, ps ∉ p.map (fun t => t.1) → sumAt p ps = 0
  | [], _ => rfl
  | t :: p, h => by
    rw [List.map_cons, List.mem_cons, not_or] at h
    rw [sumAt_cons, if_neg (fun e => h.1 e.symm), sumAt_none ps h.2, Rat.zero_add]
theorem cf_cons (t : List Int × Rat) (p : Pol) (ps : List Int) : cf (t :: p) ps = if t.1 = ps then t.2 else cf p ps := by
  unfold cf
  rw [coef_cons]
  split <;> rfl
theorem sumAt_cf (ps : List Int) : ∀ {p : Pol}, (p.map fun t => t.1).Nodup → sumAt p ps = cf p ps
  | [], _ => rfl
  | t :: p, h => by
    rw [List.map_cons, List.nodup_cons] at h
    rw [sumAt_cons, cf_cons]
    by_cases e : t.1 = ps
    · rw [if_pos e, if_pos e, sumAt_none ps (by rw [← e]; exact h.1), Rat.add_zero]
    · rw [if_neg e, if_neg e, sumAt_cf ps h.2, Rat.zero_add]
theorem cf_addK (s : Int) (ps : List Int) : ∀ (p2 p1 : Pol), cf (addK s p1 p2) ps = cf p1 ps + s * sumAt p2 ps
  | [], p1 => by
    show cf p1 ps = _
    show _ = cf p1 ps + (s : Rat) * 0
    rw [Rat.mul_zero, Rat.add_zero]
  | t :: p2, p1 => by
    show cf (addK s (putP p1 t.1 (cf p1 t.1 + s * t.2)) p2) ps = _
    rw [cf_addK s ps p2, cf_put, sumAt_cons, Rat.mul_add, ← Rat.add_assoc]
    congr 1
    by_cases e : t.1 = ps
    · rw [if_pos e.symm, if_pos e, e]
    · rw [if_neg (fun z => e z.symm), if_neg e, Rat.mul_zero, Rat.add_zero]
theorem addK_nd (s : Int) : ∀ (p2 p1 : Pol), (p1.map fun t => t.1).Nodup → ((addK s p1 p2).map fun t => t.1).Nodup
  | [], _, h => h
  | t :: p2, p1, h => addK_nd s p2 _ (putP_keys p1 t.1 _ h)
theorem kept_nd {p : Pol} (h : (p.map fun t => t.1).Nodup) : ((kept p).map fun t => t.1).Nodup := h.sublist ((List.filter_sublist ..).map _)
theorem kept_nz {p : Pol} : ∀ t ∈ kept p, t.2 ≠ 0 := fun t ht => by simpa using (List.mem_filter.mp ht).2
theorem cf_kept (ps : List Int) : ∀ {p : Pol}, (p.map fun t => t.1).Nodup → cf (kept p) ps = cf p ps := by
  intro p h
  rw [← sumAt_cf ps (kept_nd h), ← sumAt_cf ps h]
  clear h
  induction p with
  | nil => rfl
  | cons t p ih =>
    unfold kept at ih ⊢
    rw [List.filter_cons]
    by_cases e : t.2 = 0
    · rw [if_neg (by simp [e]), sumAt_cons, ih, e]
      split <;> rw [Rat.zero_add]
    · rw [if_pos (by simp [e]), sumAt_cons, sumAt_cons, ih]
theorem sumAt_neg (ps : List Int) : ∀ p : Pol, sumAt (negP p) ps = ((-1 : Int) : Rat) * sumAt p ps
  | [] => by
    show (0 : Rat) = ((-1 : Int) : Rat) * 0
    rw [Rat.mul_zero]
  | t :: p => by
    show sumAt ((t.1, 0 - t.2) :: negP p) ps = _
    rw [sumAt_cons, sumAt_cons, sumAt_neg ps p, Rat.mul_add]
    congr 1
    have e : ((-1 : Int) : Rat) = -1 := rfl
    split
    · show 0 - t.2 = _
      rw [e, Rat.neg_mul, Rat.one_mul, Rat.sub_eq_add_neg, Rat.zero_add]
    · rw [Rat.mul_zero]
/-- what the law reckons for a sum is what the program tells -/
theorem told_plus {p1 p2 : Pol} (n1 : (p1.map fun t => t.1).Nodup) : srt (kept (addK 1 p1 p2)) = polyN (srt p1 ++ srt p2) := by
  unfold polyN
  refine srt_eq (kept_nd (addK_nd 1 p2 p1 n1)) (kept_nd (acc_nd _)) kept_nz kept_nz fun ps => ?_
  show _ = cf (kept (acc _)) ps
  rw [cf_kept ps (addK_nd 1 p2 p1 n1), cf_kept ps (acc_nd _), cf_acc, sumAt_append, cf_addK, sumAt_perm ps (srt_perm p1), sumAt_perm ps (srt_perm p2), sumAt_cf ps n1]
  congr 1
  exact Rat.one_mul _
theorem told_less {p1 p2 : Pol} (n1 : (p1.map fun t => t.1).Nodup) : srt (kept (addK (-1) p1 p2)) = polyN (srt p1 ++ negP (srt p2)) := by
  unfold polyN
  refine srt_eq (kept_nd (addK_nd _ p2 p1 n1)) (kept_nd (acc_nd _)) kept_nz kept_nz fun ps => ?_
  show _ = cf (kept (acc _)) ps
  rw [cf_kept ps (addK_nd _ p2 p1 n1), cf_kept ps (acc_nd _), cf_acc, sumAt_append, cf_addK, sumAt_neg, sumAt_perm ps (srt_perm p1), sumAt_perm ps (srt_perm p2), sumAt_cf ps n1]
theorem mulP_perm {p1 p2 q1 q2 : Pol} (h1 : p1.Perm q1) (h2 : p2.Perm q2) : (mulP p1 p2).Perm (mulP q1 q2) := by
  unfold mulP
  refine (h1.flatMap_right _).trans ?_
  clear h1
  induction q1 with
  | nil => exact List.Perm.refl _
  | cons t q1 ih =>
    rw [List.flatMap_cons, List.flatMap_cons]
    exact (h2.map _).append ih
theorem told_times (p1 p2 : Pol) : srt (kept (acc (mulP p1 p2))) = polyN (mulP (srt p1) (srt p2)) := by
  unfold polyN
  refine srt_eq (kept_nd (acc_nd _)) (kept_nd (acc_nd _)) kept_nz kept_nz fun ps => ?_
  show _ = cf (kept (acc _)) ps
  rw [cf_kept ps (acc_nd _), cf_kept ps (acc_nd _), cf_acc, cf_acc]
  exact (sumAt_perm ps (mulP_perm (srt_perm p1) (srt_perm p2))).symm
/-! ### values -/
theorem valQ_gen (pt : List Rat) : ∀ (p : Pol) (s : Rat), p.foldl (fun s t => s + monQ t.2 (t.1.zip pt)) s = s + valQ pt p
  | [], s => by simp [valQ, Rat.add_zero]
  | t :: p, s => by
    unfold valQ
    rw [List.foldl_cons, List.foldl_cons, valQ_gen pt p, valQ_gen pt p (0 + _), Rat.zero_add, Rat.add_assoc]
theorem valQ_cons (pt : List Rat) (t : List Int × Rat) (p : Pol) : valQ pt (t :: p) = monQ t.2 (t.1.zip pt) + valQ pt p := by
  show (t :: p).foldl _ 0 = _
  rw [List.foldl_cons, valQ_gen, Rat.zero_add]
theorem valQ_append (pt : List Rat) (a b : Pol) : valQ pt (a ++ b) = valQ pt a + valQ pt b := by
  show (a ++ b).foldl _ 0 = _
  rw [List.foldl_append, valQ_gen]
  rfl
theorem valQ_perm (pt : List Rat) {a b : Pol} (h : a.Perm b) : valQ pt a = valQ pt b := by
  induction h with
  | nil => rfl
  | cons t _ ih => rw [valQ_cons, valQ_cons, ih]
  | swap s t l =>
    rw [valQ_cons, valQ_cons, valQ_cons, valQ_cons, ← Rat.add_assoc, ← Rat.add_assoc]
    congr 1
    exact Rat.add_comm _ _
  | trans _ _ h1 h2 => rw [h1, h2]
theorem monQ_eq : ∀ (zs : List (Int × Rat)) (f : Rat), monQ f zs = f * monQ 1 zs
  | [], f => by
    show f = f * 1
    rw [Rat.mul_one]
  | z :: zs, f => by
    show monQ (f * powQ z.2 z.1.toNat) zs = f * monQ (1 * powQ z.2 z.1.toNat) zs
    rw [monQ_eq zs, monQ_eq zs (1 * _), Rat.one_mul, Rat.mul_assoc]
theorem valQ_kept (pt : List Rat) : ∀ p : Pol, valQ pt (kept p) = valQ pt p
  | [] => rfl
  | t :: p => by
    have ih := valQ_kept pt p
    unfold kept at ih ⊢
    rw [List.filter_cons]
    by_cases e : t.2 = 0
    · rw [if_neg (by simp [e]), valQ_cons, ih, e, monQ_eq, Rat.zero_mul, Rat.zero_add]
    · rw [if_pos (by simp [e]), valQ_cons, valQ_cons, ih]
/-- a pair added to what stands at its powers -/
theorem valQ_put (pt : List Rat) (ps : List Int) (q : Rat) : ∀ {p : Pol}, (p.map fun t => t.1).Nodup → valQ pt (putP p ps (cf p ps + q)) = valQ pt p + monQ q (ps.zip pt) := by
  intro p nd
  by_cases e : (coef p ps).isSome = true
  · unfold putP
    rw [if_pos e]
    induction p with
    | nil => simp [coef] at e
    | cons t p ih =>
      rw [List.map_cons, List.nodup_cons] at nd
      rw [List.map_cons, valQ_cons, valQ_cons]
      rw [coef_cons] at e
      rw [cf_cons]
      by_cases e1 : t.1 = ps
      · rw [if_pos e1, if_pos e1]
        have e2 : (p.map fun u => if u.1 = ps then (u.1, t.2 + q) else u) = p := by
          conv => rhs; rw [← List.map_id p]
          refine List.map_congr_left fun u hu => ?_
          rw [if_neg]
          · rfl
          · intro z
            exact nd.1 (by rw [e1, ← z]; exact List.mem_map_of_mem hu)
        rw [e2, e1]
        show monQ (t.2 + q) (ps.zip pt) + _ = _
        rw [monQ_eq, monQ_eq _ t.2, monQ_eq _ q, Rat.add_mul, Rat.add_assoc, Rat.add_assoc]
        congr 1
        exact Rat.add_comm _ _
      · rw [if_neg e1] at e
        rw [if_neg e1, if_neg e1, ih nd.2 e, Rat.add_assoc]
  · unfold putP
    rw [if_neg e, valQ_append, valQ_cons]
    have : cf p ps = 0 := by
      unfold cf
      cases z : coef p ps with
      | none => rfl
      | some v => rw [z] at e; simp at e
    rw [this, Rat.zero_add]
    show _ + (_ + 0) = _
    rw [Rat.add_zero]
theorem valQ_acc (pt : List Rat) : ∀ (ts : Pol), valQ pt (acc ts) = valQ pt ts := by
  have gen : ∀ (ts p : Pol), (p.map fun t => t.1).Nodup → valQ pt (ts.foldl (fun p t => putP p t.1 (cf p t.1 + t.2)) p) = valQ pt p + valQ pt ts := by
    intro ts
    induction ts with
    | nil =>
      intro p _
      show _ = _ + 0
      rw [Rat.add_zero]
      rfl
    | cons t ts ih =>
      intro p nd
      rw [List.foldl_cons, ih _ (putP_keys _ _ _ nd), valQ_put pt _ _ nd, valQ_cons, Rat.add_assoc]
  intro ts
  have := gen ts [] (by simp)
  rw [show valQ pt [] = 0 from rfl, Rat.zero_add] at this
  exact this
theorem valQ_poly (pt : List Rat) (ts : Pol) : valQ pt (polyN ts) = valQ pt ts := by
  unfold polyN
  rw [valQ_perm pt (srt_perm _)]
  show valQ pt (kept (acc ts)) = _
  rw [valQ_kept, valQ_acc]
theorem powQ_add (f : Rat) (a : Nat) : ∀ b : Nat, powQ f (a + b) = powQ f a * powQ f b
  | 0 => by
    show powQ f a = powQ f a * 1
    rw [Rat.mul_one]
  | b + 1 => by
    show powQ f (a + b) * f = powQ f a * (powQ f b * f)
    rw [powQ_add f a b, Rat.mul_assoc]
theorem mul4 (a b c d : Rat) : a * b * (c * d) = a * c * (b * d) := by
  rw [Rat.mul_assoc, Rat.mul_assoc, ← Rat.mul_assoc b c d, Rat.mul_comm b c, Rat.mul_assoc c b d]
theorem mon_add : ∀ (a b : List Int) (pt : List Rat), a.length = b.length → (∀ n ∈ a, 0 ≤ n) → (∀ n ∈ b, 0 ≤ n) → monQ 1 ((addPw a b).zip pt) = monQ 1 (a.zip pt) * monQ 1 (b.zip pt)
  | [], [], pt, _, _, _ => by
    show (1 : Rat) = 1 * 1
    rw [Rat.mul_one]
  | x :: a, y :: b, [], _, _, _ => by
    show (1 : Rat) = 1 * 1
    rw [Rat.mul_one]
  | x :: a, y :: b, f :: pt, hl, ha, hb => by
    have ih := mon_add a b pt (by simpa using hl) (fun n hn => ha n (List.mem_cons_of_mem _ hn)) (fun n hn => hb n (List.mem_cons_of_mem _ hn))
    have hx := ha x (List.mem_cons_self ..)
    have hy := hb y (List.mem_cons_self ..)
    show monQ (1 * powQ f (x + y).toNat) ((addPw a b).zip pt) = monQ (1 * powQ f x.toNat) (a.zip pt) * monQ (1 * powQ f y.toNat) (b.zip pt)
    rw [monQ_eq, monQ_eq (a.zip pt), monQ_eq (b.zip pt), ih, Rat.one_mul, Rat.one_mul, Rat.one_mul, mul4]
    congr 1
    rw [show (x + y).toNat = x.toNat + y.toNat by omega, powQ_add]
theorem valQ_neg (pt : List Rat) : ∀ p : Pol, valQ pt (negP p) = - valQ pt p
  | [] => rfl
  | t :: p => by
    show valQ pt ((t.1, 0 - t.2) :: negP p) = _
    rw [valQ_cons, valQ_cons, valQ_neg pt p, Rat.neg_add]
    congr 1
    show monQ (0 - t.2) _ = _
    rw [monQ_eq, monQ_eq _ t.2, Rat.sub_eq_add_neg, Rat.zero_add, Rat.neg_mul]
theorem valQ_mul1 (pt : List Rat) (t : List Int × Rat) (h1 : ∀ n ∈ t.1, 0 ≤ n) : ∀ p2 : Pol, (∀ u ∈ p2, u.1.length = t.1.length ∧ ∀ n ∈ u.1, 0 ≤ n) → valQ pt (p2.map fun u => (addPw t.1 u.1, t.2 * u.2)) = monQ t.2 (t.1.zip pt) * valQ pt p2
  | [], _ => by
    show (0 : Rat) = _ * 0
    rw [Rat.mul_zero]
  | u :: p2, h => by
    have hu := h u (List.mem_cons_self ..)
    rw [List.map_cons, valQ_cons, valQ_cons, valQ_mul1 pt t h1 p2 fun v hv => h v (List.mem_cons_of_mem _ hv), Rat.mul_add]
    congr 1
    show monQ (t.2 * u.2) ((addPw t.1 u.1).zip pt) = _
    rw [monQ_eq, mon_add t.1 u.1 pt hu.1.symm h1 hu.2, monQ_eq _ t.2, monQ_eq _ u.2, mul4]
theorem valQ_mul (pt : List Rat) (p2 : Pol) {m : Nat} (h2 : ∀ u ∈ p2, u.1.length = m ∧ ∀ n ∈ u.1, 0 ≤ n) : ∀ p1 : Pol, (∀ u ∈ p1, u.1.length = m ∧ ∀ n ∈ u.1, 0 ≤ n) → valQ pt (mulP p1 p2) = valQ pt p1 * valQ pt p2
  | [], _ => by
    show (0 : Rat) = 0 * _
    rw [Rat.zero_mul]
  | t :: p1, h => by
    have ht := h t (List.mem_cons_self ..)
    show valQ pt ((p2.map fun u => (addPw t.1 u.1, t.2 * u.2)) ++ mulP p1 p2) = _
    rw [valQ_append, valQ_cons, valQ_mul pt p2 h2 p1 fun v hv => h v (List.mem_cons_of_mem _ hv), Rat.add_mul, valQ_mul1 pt t ht.2 p2 fun u hu => ⟨by rw [(h2 u hu).1, ht.1], (h2 u hu).2⟩]
theorem FB.of_den {q : Rat} {N b : Nat} (hN : 0 < N) (hd : q.den ∣ N) (h : RB q b) : FB q N (2 ^ b * N) := by
  obtain ⟨c, rfl⟩ := hd
  have hc : 0 < c := Nat.pos_of_ne_zero fun z => by rw [z, Nat.mul_zero] at hN; omega
  have hp : 0 < q.den := Nat.pos_of_ne_zero q.den_nz
  rw [← Rat.num_divInt_den q]
  refine FB.of (c := c) (den_ne q) ?_ hc ?_
  · rw [Rat.num_divInt_den, Int.natCast_mul]
  · rw [Rat.num_divInt_den]
    have h1 : q.num.natAbs * c ≤ 2 ^ b * c := Nat.mul_le_mul_right _ (Nat.le_of_lt h.1)
    have h2 : c ≤ q.den * c := Nat.le_mul_of_pos_left _ hp
    exact Nat.le_trans h1 (Nat.mul_le_mul_left _ h2)
end U

/-! Lj: the order of pairs; one sorted form of each polynomial; the program's poly. -/
namespace U
open PySem Deep
local macro_rules | `(tactic| walk_at "ev") => `(tactic| try simp only [es_nil, es_cons, es_asg, es_par, es_sub, es_exp, es_ret, es_retN, es_ite, es_for, es_brk, es_cnt, es_pas, tn_nm, tn_tp, tns_nil, tns_cons, tnsLen,
  ev_v0, ev_vs, ev_cst, ev_glb, ev_typ, ev_op, ev_neg, ev_cmp, ev_chn, ev_and, ev_or, ev_not, ev_ite, ev_tup, ev_lst, ev_ix, ev_sl, ev_call, ev_bi, ev_mt, ev_tm, isStr_s, ev_dnew, ev_dget, ev_mxd, ev_lrng, lrng_i, dnew_t, dnew_k, es_frz, fz_some, walk_dt, walk_dk, ev_frz, ev_lc, ea_nil, ea_cons, ean_nil, ean_cons, eor_nil, eor_cons, eo_non, eo_som, ec_non, ec_som, ei_ex, ei_rng, ei_enm, ei_zip, ei_rev,
  bD_bl, tn_fD, len_fD, kit_fD, walk_fD, ix_f0, ix_f1, op_add_i, op_add_s, op_add_t, op_add_l, op_sub_i, op_mul_i, op_mul_s, op_mul_l, op_fdiv_i, op_mod_i, op_pow_i, neg_i, cmp_eq, cmp_ne, eq_i, eq_s, eq_b, cmp_lt, cmp_le, cmp_gt, cmp_ge, ix_tup, ix_lst, ix_box, ix_scr, at_some, lc_nil, lc_cons, newL_f, newL_t, newL_b, len_str, len_tup, len_lst, len_scr, bi_abs, bi_max2, bi_min2, bi_int_i, bi_int_b, bi_tup_t, bi_tup_l, set_box, walk_tup, walk_lst, walk_str, rng_1, rng_2, sl_tup, sl_lst, sl_scr, wipe_nil, wipe_cons, bi_isi, kit_tup, kit_int, kit_str, kit_bl, kit_non, kit_lst, kb_tt, kb_ii, kb_ib, kb_ll, kb_it, kb_lt, kb_tl, kb_ss, w_plus_plus, w_plus_less, w_plus_times, w_plus_over, w_plus_number, w_plus_letter, w_less_plus, w_less_less, w_less_times, w_less_over, w_less_number, w_less_letter, w_times_plus, w_times_less, w_times_times, w_times_over, w_times_number, w_times_letter, w_over_plus, w_over_less, w_over_times, w_over_over, w_over_number, w_over_letter, w_number_plus, w_number_less, w_number_times, w_number_over, w_number_number, w_number_letter, w_letter_plus, w_letter_less, w_letter_times, w_letter_over, w_letter_number, w_letter_letter, in_plus, in_less, in_times, in_over, in_number, in_letter, at_0, at_1, at_2, cmp_inn_t, cmp_notin_t, flat_s, all_ss,
  startD, List.map_cons, List.map_nil, List.length_cons, List.length_nil, List.replicate, Nat.sub_self, Nat.reduceSub, List.cons_append, List.nil_append, List.append_nil, List.getElem?_cons_zero, List.getElem?_cons_succ, List.set_cons_zero, List.set_cons_succ, Nat.reduceAdd, Nat.zero_add, Nat.add_zero, decide_eq_true_eq, Bool.false_eq_true, if_false, if_true, reduceIte, Bool.not_true, Bool.not_false, Bool.not_eq_true', decide_eq_false_iff_not, ite_not, decide_true, decide_false, eq_self_iff_true, List.length_map, true_and, and_true, reduceCtorEq, Bool.true_eq_false, sizeLine_eq, Nat.reduceLeDiff])
set_option hygiene false in
local macro_rules | `(tactic| walk_at "evt") => `(tactic| simp only [es_nil, es_cons, es_asg, es_par, es_sub, es_exp, es_ret, es_retN, es_ite, es_for, es_brk, es_cnt, es_pas, tn_nm, tn_tp, tns_nil, tns_cons, tnsLen,
  ev_v0, ev_vs, ev_cst, ev_glb, ev_typ, ev_op, ev_neg, ev_cmp, ev_chn, ev_and, ev_or, ev_not, ev_ite, ev_tup, ev_lst, ev_ix, ev_sl, ev_call, ev_bi, ev_mt, ev_tm, isStr_s, ev_dnew, ev_dget, ev_mxd, ev_lrng, lrng_i, dnew_t, dnew_k, es_frz, fz_some, walk_dt, walk_dk, ev_frz, ev_lc, ea_nil, ea_cons, ean_nil, ean_cons, eor_nil, eor_cons, eo_non, eo_som, ec_non, ec_som, ei_ex, ei_rng, ei_enm, ei_zip, ei_rev,
  bD_bl, tn_fD, len_fD, kit_fD, walk_fD, ix_f0, ix_f1, op_add_i, op_add_s, op_add_t, op_add_l, op_sub_i, op_mul_i, op_mul_s, op_mul_l, op_fdiv_i, op_mod_i, op_pow_i, neg_i, cmp_eq, cmp_ne, eq_i, eq_s, eq_b, cmp_lt, cmp_le, cmp_gt, cmp_ge, ix_tup, ix_lst, ix_box, ix_scr, at_some, lc_nil, lc_cons, newL_f, newL_t, newL_b, len_str, len_tup, len_lst, len_scr, bi_abs, bi_max2, bi_min2, bi_int_i, bi_int_b, bi_tup_t, bi_tup_l, set_box, walk_tup, walk_lst, walk_str, rng_1, rng_2, sl_tup, sl_lst, sl_scr, wipe_nil, wipe_cons, bi_isi, kit_tup, kit_int, kit_str, kit_bl, kit_non, kit_lst, kb_tt, kb_ii, kb_ib, kb_ll, kb_it, kb_lt, kb_tl, kb_ss, w_plus_plus, w_plus_less, w_plus_times, w_plus_over, w_plus_number, w_plus_letter, w_less_plus, w_less_less, w_less_times, w_less_over, w_less_number, w_less_letter, w_times_plus, w_times_less, w_times_times, w_times_over, w_times_number, w_times_letter, w_over_plus, w_over_less, w_over_times, w_over_over, w_over_number, w_over_letter, w_number_plus, w_number_less, w_number_times, w_number_over, w_number_number, w_number_letter, w_letter_plus, w_letter_less, w_letter_times, w_letter_over, w_letter_number, w_letter_letter, in_plus, in_less, in_times, in_over, in_number, in_letter, at_0, at_1, at_2, cmp_inn_t, cmp_notin_t, flat_s, all_ss,
  startD, List.map_cons, List.map_nil, List.length_cons, List.length_nil, List.replicate, Nat.sub_self, Nat.reduceSub, List.cons_append, List.nil_append, List.append_nil, List.getElem?_cons_zero, List.getElem?_cons_succ, List.set_cons_zero, List.set_cons_succ, Nat.reduceAdd, Nat.zero_add, Nat.add_zero, decide_eq_true_eq, Bool.false_eq_true, if_false, if_true, reduceIte, Bool.not_true, Bool.not_false, Bool.not_eq_true', decide_eq_false_iff_not, ite_not, decide_true, decide_false, eq_self_iff_true, List.length_map, true_and, and_true, reduceCtorEq, Bool.true_eq_false, sizeLine_eq, Nat.reduceLeDiff] at tl)
theorem fb4 {n d : Int} (hn : n.natAbs < 2 ^ 21) (hd : 1 ≤ d ∧ d ≤ 4) : FB (Rat.divInt n d) 12 33554432 := by
  have : d = 1 ∨ d = 2 ∨ d = 3 ∨ d = 4 := by omega
  rcases this with rfl | rfl | rfl | rfl
  · exact FB.of (c := 12) (by decide) (by decide) (by decide) (by omega)
  · exact FB.of (c := 6) (by decide) (by decide) (by decide) (by omega)
  · exact FB.of (c := 4) (by decide) (by decide) (by decide) (by omega)
  · exact FB.of (c := 3) (by decide) (by decide) (by decide) (by omega)
theorem fb3 {n d : Int} (hn : n.natAbs < 2 ^ 3) (hd : 1 ≤ d ∧ d ≤ 3) : FB (Rat.divInt n d) 6 48 := by
  have : d = 1 ∨ d = 2 ∨ d = 3 := by omega
  rcases this with rfl | rfl | rfl
  · exact FB.of (c := 6) (by decide) (by decide) (by decide) (by omega)
  · exact FB.of (c := 3) (by decide) (by decide) (by decide) (by omega)
  · exact FB.of (c := 2) (by decide) (by decide) (by decide) (by omega)
theorem x_numberF {L : String → Option Df} {k : Nat} {a : Addr} {h : DH} {Q : DQ} {E : XQ} (q : ∀ f : Rat, RB f 21 → FB f 12 33554432 → Q (fD f) h) : callD (tabOf L) (k + 2) "_law_number" [.box a] h Q E := by
  refine call_of c__law_number rfl rfl ?_
  unfold c__law_number
  walk_at "ev"
  refine x_take64 (by decide) (by decide) fun r h0 h1 => ?_
  walk_at "ev"
  split
  · rename_i h7
    have all : ∀ (n d : Int) (f : Rat), f.num = n → (f.den : Int) = d → RB f 21 → f.den ∣ 12 → Q (.tup [.int n, .int d]) h := fun n d f e1 e2 b d12 => by
      rw [fD_mk f e1 e2]
      exact q f b ((FB.of_den (by decide) d12 b).mono (by decide))
    have e : r = 0 ∨ r = 1 ∨ r = 2 ∨ r = 3 ∨ r = 4 ∨ r = 5 ∨ r = 6 := by omega
    rcases e with rfl | rfl | rfl | rfl | rfl | rfl | rfl
    · exact at_of rfl (all 0 1 0 rfl rfl (by decide +kernel) (by decide +kernel))
    · exact at_of rfl (all 1 1 1 rfl rfl (by decide +kernel) (by decide +kernel))
    · exact at_of rfl (all 1 1 1 rfl rfl (by decide +kernel) (by decide +kernel))
    · exact at_of rfl (all (-1) 1 (-1) rfl rfl (by decide +kernel) (by decide +kernel))
    · exact at_of rfl (all 2 1 2 rfl rfl (by decide +kernel) (by decide +kernel))
    · exact at_of rfl (all 1 2 (Rat.divInt 1 2) (by decide +kernel) (by decide +kernel) (by decide +kernel) (by decide +kernel))
    · exact at_of rfl (all (-2) 3 (Rat.divInt (-2) 3) (by decide +kernel) (by decide +kernel) (by decide +kernel) (by decide +kernel))
  · split
    · refine x_take64 (by decide) (by decide) fun r1 h2 h3 => ?_
      walk_at "ev"
      refine x_take64 (by decide) (by decide) fun r2 h4 h5 => ?_
      walk_at "ev"
      have hb : (1 + r2).natAbs < 2 ^ 21 := by omega
      exact x_lfraction (by omega) (Nat.lt_of_lt_of_le hb (Nat.pow_le_pow_right (by decide) (by decide))) (q _ (RB.divInt (by omega) hb (by omega)) (fb4 (by omega) (by omega)))
    · refine x_take64 (by decide) (by decide) fun r1 h2 h3 => ?_
      walk_at "ev"
      refine x_take64 (by decide) (by decide) fun r2 h4 h5 => ?_
      walk_at "ev"
      have hb : (1 + r2).natAbs < 2 ^ 21 := by omega
      exact x_lfraction (by omega) (Nat.lt_of_lt_of_le hb (Nat.pow_le_pow_right (by decide) (by decide))) (q _ (RB.divInt (by omega) hb (by omega)) (fb4 (by omega) (by omega)))
theorem x_smallF {L : String → Option Df} {k : Nat} {a : Addr} {h : DH} {Q : DQ} {E : XQ} (q : ∀ f : Rat, RB f 3 → FB f 6 48 → Q (fD f) h) : callD (tabOf L) (k + 2) "_law_small" [.box a] h Q E := by
  refine call_of c__law_small rfl rfl ?_
  unfold c__law_small
  walk_at "ev"
  refine x_take64 (by decide) (by decide) fun r1 h2 h3 => ?_
  walk_at "ev"
  refine x_take64 (by decide) (by decide) fun r2 h4 h5 => ?_
  walk_at "ev"
  have hb : (1 + r2).natAbs < 2 ^ 3 := by omega
  exact x_lfraction (by omega) (Nat.lt_of_lt_of_le hb (Nat.pow_le_pow_right (by decide) (by decide))) (q _ (RB.divInt (by omega) hb (by omega)) (fb3 (by omega) (by omega)))
section
variable {L : String → Option Df} {k : Nat} {h : DH} {Q : DQ} {E : XQ}
theorem x_drawn_polyF {a : Addr} {m most : Nat} {top : Int} (hm : m ≤ 3) (hmo : most ≤ 100) (ht : 0 < top ∧ top < 1000000) (q : ∀ p : Pol, PolOk m top 21 p → (∀ t ∈ p, FB t.2 12 33554432) → p.length ≤ most → Q (pdD p) h) :
    callD (tabOf L) (k + 3) "_law_drawn_poly" [.box a, .int (m : Int), .int (most : Int), .int top] h Q E := by
  refine call_of c__law_drawn_poly rfl rfl ?_
  unfold c__law_drawn_poly
  walk_at "ev"
  intro d hd
  refine x_take64 (by omega) (by omega) fun r0 g0 g1 => ?_
  walk_at "ev"
  refine ⟨by omega, by omega, ?_⟩
  refine forD_by (fun r σ g => ∃ p : Pol, PolOk m top 21 p ∧ (∀ t ∈ p, FB t.2 12 33554432) ∧ p.length + r.length ≤ most ∧ g = updD h d (.dT (pkK p)) ∧ ∃ o5 o6 o7, σ = [some (.box a), some (.int (m : Int)), some (.int (most : Int)), some (.int top), some (.ref d), o5, o6, o7, none]) ?_ ?_ _ _ _ ⟨[], .nil, (fun _ z => (nomatch z)), by rw [rngL_len]; simp; omega, rfl, _, _, _, rfl⟩
  · rintro x r σ g ⟨p, hp, hF, hl, rfl, o5, o6, o7, rfl⟩ N hN
    rw [List.length_cons] at hl
    refine ⟨trivial, ?_⟩
    walk_at "ev"
    refine x_numberF fun f hf hf2 => ?_
    walk_at "ev"
    refine ⟨by omega, by omega, ?_⟩
    rw [Int.toNat_natCast]
    refine x_powers rfl ht (by omega) (fun d => rfl) (fun d => rfl) fun ps e1 e2 => ?_
    walk_at "ev"
    split
    · exact hN _ _ ⟨p, hp, hF, by omega, rfl, _, _, _, rfl⟩
    · rename_i hz
      have sz : sizeLine = 16777216 := rfl
      refine dset_t updD_same (dKey_pw ps) (keyOk_pw ps) (by show (p.map _).length < _; rw [List.length_map]; omega) ?_
      refine hN _ _ ⟨putP p ps f, hp.put e1 e2 (fun z => hz (by rw [z]; rfl)) hf, (fun t ht => by
        rcases putP_mem ht with h' | rfl
        · exact hF t h'
        · exact hf2), ?_, ?_, _, _, _, rfl⟩
      · have := putP_len p ps f
        omega
      · rw [updD_upd, putD_pk]
  · rintro σ g ⟨p, hp, hF, hl, rfl, o5, o6, o7, rfl⟩
    refine ⟨trivial, ?_⟩
    walk_at "ev"
    rw [frz_rt updD_same, delD_updD hd]
    exact q p hp hF (by simpa using hl)
end
end U

/-! Lm: how great values, sums and products of pairs are, over one denominator. -/
namespace U
open PySem Deep
theorem FB.one {N : Nat} (hN : 0 < N) : FB 1 N N := by
  refine ⟨N, ?_, by simp⟩
  rw [Rat.divInt_self' (by omega)]
theorem FB.pow {f : Rat} {M J : Nat} (hM : 0 < M) (h : FB f M J) : ∀ n : Nat, FB (powQ f n) (M ^ n) (J ^ n)
  | 0 => by
    show FB 1 1 1
    exact FB.one (by decide)
  | n + 1 => by
    have := (FB.pow hM h n).mul h
    rw [Nat.pow_succ, Nat.pow_succ]
    exact this
theorem FB.powUp {f : Rat} {M J : Nat} (hM : 0 < M) (hJ : M ≤ J) (h : FB f M J) {n e : Nat} (hn : n ≤ e) : FB (powQ f n) (M ^ e) (J ^ e) := by
  have h1 := (FB.pow hM h n).up (M ^ (e - n)) (Nat.pow_pos hM)
  rw [← Nat.pow_add, show n + (e - n) = e by omega] at h1
  refine h1.mono ?_
  have h2 : M ^ (e - n) ≤ J ^ (e - n) := Nat.pow_le_pow_left hJ _
  calc J ^ n * M ^ (e - n) ≤ J ^ n * J ^ (e - n) := Nat.mul_le_mul_left _ h2
    _ = J ^ e := by rw [← Nat.pow_add, show n + (e - n) = e by omega]
theorem FB.mon {M J e : Nat} (hM : 0 < M) (hJ : M ≤ J) : ∀ (zs : List (Int × Rat)) {f : Rat} {N K : Nat}, FB f N K → (∀ z ∈ zs, FB z.2 M J ∧ z.1.toNat ≤ e) → FB (monQ f zs) (N * (M ^ e) ^ zs.length) (K * (J ^ e) ^ zs.length)
  | [], f, N, K, hf, _ => by simpa [monQ] using hf
  | z :: zs, f, N, K, hf, hz => by
    have h1 := hz z (List.mem_cons_self ..)
    have h3 := FB.mon hM hJ zs (hf.mul (FB.powUp hM hJ h1.1 h1.2)) fun y hy => hz y (List.mem_cons_of_mem _ hy)
    unfold monQ at h3 ⊢
    rw [List.foldl_cons, List.length_cons]
    have e1 : ∀ X Y : Nat, X * Y ^ (zs.length + 1) = X * Y * Y ^ zs.length := fun X Y => by rw [Nat.pow_succ, Nat.mul_comm (Y ^ zs.length) Y, Nat.mul_assoc]
    rw [e1, e1]
    exact h3
/-- powers of m letters, from 0 to e, no two alike; so many N-th parts -/
structure PF (m e N K : Nat) (p : Pol) : Prop where
  nd : (p.map fun t => t.1).Nodup
  ln : ∀ t ∈ p, t.1.length = m
  pw : ∀ t ∈ p, ∀ n ∈ t.1, 0 ≤ n ∧ n ≤ (e : Int)
  cf : ∀ t ∈ p, FB t.2 N K
theorem PF.perm {m e N K : Nat} {p q : Pol} (h : p.Perm q) (hp : PF m e N K p) : PF m e N K q :=
  ⟨(h.map _).nodup_iff.mp hp.nd, fun t ht => hp.ln t (h.mem_iff.mpr ht), fun t ht => hp.pw t (h.mem_iff.mpr ht), fun t ht => hp.cf t (h.mem_iff.mpr ht)⟩
theorem PF.srt {m e N K : Nat} {p : Pol} (hp : PF m e N K p) : PF m e N K (srt p) := hp.perm (srt_perm p).symm
theorem PF.pre {m e N K : Nat} {p a b : Pol} (h : p = a ++ b) (hp : PF m e N K p) : PF m e N K a := by
  subst h
  refine ⟨?_, fun t ht => hp.ln t (List.mem_append_left _ ht), fun t ht => hp.pw t (List.mem_append_left _ ht), fun t ht => hp.cf t (List.mem_append_left _ ht)⟩
  have := hp.nd
  rw [List.map_append, List.nodup_append] at this
  exact this.1
theorem FB.val {m e N K M J : Nat} (hN : 0 < N) (hM : 0 < M) (hJ : M ≤ J) {pt : List Rat} (hpt : ∀ f ∈ pt, FB f M J) (hl : pt.length = m) : ∀ {p : Pol}, (∀ t ∈ p, t.1.length = m) → (∀ t ∈ p, ∀ n ∈ t.1, 0 ≤ n ∧ n ≤ (e : Int)) → (∀ t ∈ p, FB t.2 N K) → FB (valQ pt p) (N * (M ^ e) ^ m) (p.length * (K * (J ^ e) ^ m))
  | [], _, _, _ => by
    rw [List.length_nil, Nat.zero_mul]
    exact FB.zero
  | t :: p, h1, h2, h3 => by
    have ih := FB.val hN hM hJ hpt hl (p := p) (fun u hu => h1 u (List.mem_cons_of_mem _ hu)) (fun u hu => h2 u (List.mem_cons_of_mem _ hu)) (fun u hu => h3 u (List.mem_cons_of_mem _ hu))
    rw [valQ_cons, List.length_cons, Nat.succ_mul, Nat.add_comm]
    have h4 := FB.mon (e := e) hM hJ (t.1.zip pt) (h3 t (List.mem_cons_self ..)) fun z hz => by
      have h5 := List.of_mem_zip (a := z.1) (b := z.2) hz
      have h6 := h2 t (List.mem_cons_self ..) z.1 h5.1
      exact ⟨hpt _ h5.2, by omega⟩
    have h7 : (t.1.zip pt).length = m := by
      rw [List.length_zip, h1 t (List.mem_cons_self ..), hl, Nat.min_self]
    rw [h7] at h4
    exact FB.add (Nat.mul_pos hN (Nat.pow_pos (Nat.pow_pos hM))) h4 ih
theorem FB.sumAt {N K : Nat} (hN : 0 < N) (ps : List Int) : ∀ {p : Pol}, (∀ t ∈ p, FB t.2 N K) → FB (sumAt p ps) N (p.length * K)
  | [], _ => by
    rw [List.length_nil, Nat.zero_mul]
    exact FB.zero
  | t :: p, h => by
    have ih := FB.sumAt hN ps (p := p) fun u hu => h u (List.mem_cons_of_mem _ hu)
    rw [sumAt_cons, List.length_cons, Nat.succ_mul, Nat.add_comm]
    refine FB.add hN ?_ ih
    split
    · exact h t (List.mem_cons_self ..)
    · exact FB.zero
/-- pairs of powers and numbers that may be told -/
theorem polyN_mem {ts : Pol} {t : List Int × Rat} (h : t ∈ polyN ts) : (∃ u ∈ ts, u.1 = t.1) ∧ t.2 = sumAt ts t.1 ∧ t.2 ≠ 0 := by
  unfold polyN at h
  rw [(srt_perm _).mem_iff, List.mem_filter] at h
  refine ⟨acc_mem ts h.1, ?_, by simpa using h.2⟩
  rw [← cf_acc]
  exact (cf_mem (acc_nd ts) h.1).symm
theorem polyN_nd (ts : Pol) : ((polyN ts).map fun t => t.1).Nodup := NF.nodup (srt_nf (kept_nd (acc_nd ts)))
theorem polyN_len (ts : Pol) : (polyN ts).length ≤ ts.length := by
  unfold polyN
  rw [(srt_perm _).length_eq]
  exact Nat.le_trans (List.length_filter_le ..) (acc_len ts)
theorem PF.poly {m e N K : Nat} {ts : Pol} (hN : 0 < N) (ln : ∀ t ∈ ts, t.1.length = m) (pw : ∀ t ∈ ts, ∀ n ∈ t.1, 0 ≤ n ∧ n ≤ (e : Int)) (hc : ∀ t ∈ ts, FB t.2 N K) : PF m e N (ts.length * K) (polyN ts) := by
  refine ⟨polyN_nd ts, fun t ht => ?_, fun t ht => ?_, fun t ht => ?_⟩
  · obtain ⟨⟨u, hu, eu⟩, _, _⟩ := polyN_mem ht
    rw [← eu]
    exact ln u hu
  · obtain ⟨⟨u, hu, eu⟩, _, _⟩ := polyN_mem ht
    rw [← eu]
    exact pw u hu
  · obtain ⟨_, e, _⟩ := polyN_mem ht
    rw [e]
    exact FB.sumAt hN _ hc
theorem addPw_len {a b : List Int} (h : a.length = b.length) : (addPw a b).length = a.length := by
  unfold addPw
  rw [List.length_zipWith, h, Nat.min_self]
theorem addPw_pw {x y : Nat} : ∀ {a b : List Int}, (∀ n ∈ a, 0 ≤ n ∧ n ≤ (x : Int)) → (∀ n ∈ b, 0 ≤ n ∧ n ≤ (y : Int)) → ∀ n ∈ addPw a b, 0 ≤ n ∧ n ≤ ((x + y : Nat) : Int)
  | [], _, _, _, n, h => by simp [addPw] at h
  | _ :: _, [], _, _, n, h => by simp [addPw] at h
  | u :: a, v :: b, ha, hb, n, h => by
    have hu := ha u (List.mem_cons_self ..)
    have hv := hb v (List.mem_cons_self ..)
    rcases List.mem_cons.mp (show n ∈ (u + v) :: addPw a b from h) with rfl | h
    · omega
    · exact addPw_pw (fun z hz => ha z (List.mem_cons_of_mem _ hz)) (fun z hz => hb z (List.mem_cons_of_mem _ hz)) n h
theorem mulP_mem {p1 p2 : Pol} {t : List Int × Rat} (h : t ∈ mulP p1 p2) : ∃ a ∈ p1, ∃ u ∈ p2, t = (addPw a.1 u.1, a.2 * u.2) := by
  unfold mulP at h
  obtain ⟨a, ha, ht⟩ := List.mem_flatMap.mp h
  obtain ⟨u, hu, rfl⟩ := List.mem_map.mp ht
  exact ⟨a, ha, u, hu, rfl⟩
theorem mulP_ok {m e e' N K N' K' : Nat} {p1 p2 : Pol} (h1 : PF m e N K p1) (h2 : PF m e' N' K' p2) : (∀ t ∈ mulP p1 p2, t.1.length = m) ∧ (∀ t ∈ mulP p1 p2, ∀ n ∈ t.1, 0 ≤ n ∧ n ≤ ((e + e' : Nat) : Int)) ∧ ∀ t ∈ mulP p1 p2, FB t.2 (N * N') (K * K') := by
  refine ⟨fun t ht => ?_, fun t ht => ?_, fun t ht => ?_⟩
  · obtain ⟨a, ha, u, hu, rfl⟩ := mulP_mem ht
    show (addPw a.1 u.1).length = m
    rw [addPw_len (by rw [h1.ln a ha, h2.ln u hu]), h1.ln a ha]
  · obtain ⟨a, ha, u, hu, rfl⟩ := mulP_mem ht
    exact addPw_pw (h1.pw a ha) (h2.pw u hu)
  · obtain ⟨a, ha, u, hu, rfl⟩ := mulP_mem ht
    exact (h1.cf a ha).mul (h2.cf u hu)
theorem FB.sMul {s : Int} {q : Rat} {N K : Nat} (hs : s = 1 ∨ s = -1) (h : FB q N K) : FB ((s : Rat) * q) N K := by
  rcases hs with rfl | rfl
  · show FB ((1 : Rat) * q) N K
    rw [Rat.one_mul]
    exact h
  · show FB ((-1 : Rat) * q) N K
    rw [Rat.neg_mul, Rat.one_mul]
    exact h.neg
theorem FB.cf {N K : Nat} {p : Pol} (h : ∀ t ∈ p, FB t.2 N K) (ps : List Int) : FB (U.cf p ps) N K := by
  unfold U.cf
  cases q : coef p ps with
  | none => exact FB.zero
  | some z => exact h _ (mem_of_coef q)
theorem addK_len (s : Int) : ∀ (p2 p1 : Pol), (addK s p1 p2).length ≤ p1.length + p2.length
  | [], p1 => by show p1.length ≤ _; omega
  | t :: p2, p1 => by
    have h1 := addK_len s p2 (putP p1 t.1 (U.cf p1 t.1 + s * t.2))
    have h2 := putP_len p1 t.1 (U.cf p1 t.1 + s * t.2)
    rw [List.length_cons]
    show (addK s (putP p1 t.1 (U.cf p1 t.1 + s * t.2)) p2).length ≤ _
    omega
theorem FB.addK {N K : Nat} (hN : 0 < N) {s : Int} (hs : s = 1 ∨ s = -1) {p1 p2 : Pol} (h1 : ∀ t ∈ p1, FB t.2 N K) (h2 : ∀ t ∈ p2, FB t.2 N K) (ps : List Int) : FB (U.cf (U.addK s p1 p2) ps) N (K + p2.length * K) := by
  rw [cf_addK]
  exact FB.add hN (FB.cf h1 ps) (FB.sMul hs (FB.sumAt hN ps h2))
end U

namespace U.K03
open PySem L2 Deep
/-- the text's defs by place -/
def top (i : Nat) : Stmt := PySem.Challenge.pw_undivide_k03_whole_polynomials_by_points.main.body.getD i (.Pass ⟨0, 0, 0, 0⟩)
def l_power_of : Df := ⟨"power_of", 2, 4, (.cons (.asg (.nm 2) (.glb "ONE" (.tup [(.int 1), (.int 1)]))) (.cons (.for (.nm 3) (.rng (.cons (.var 1) .nil)) (.cons (.asg (.nm 2) (.call "times" (.cons (.var 2) (.cons (.var 0) .nil)))) .nil)) (.cons (.ret (.var 2)) .nil)))⟩
def l_value : Df := ⟨"value", 2, 7, (.cons (.asg (.nm 2) (.glb "NOUGHT" (.tup [(.int 0), (.int 1)]))) (.cons (.for (.tp (.cons (.nm 3) (.cons (.nm 4) .nil))) (.ex (.var 0)) (.cons (.for (.tp (.cons (.nm 5) (.cons (.nm 6) .nil))) (.zip (.var 3) (.var 1)) (.cons (.asg (.nm 4) (.call "times" (.cons (.var 4) (.cons (.call "power_of" (.cons (.var 6) (.cons (.var 5) .nil))) .nil)))) .nil)) (.cons (.asg
  (.nm 2) (.call "plus" (.cons (.var 2) (.cons (.var 4) .nil)))) .nil))) (.cons (.ret (.var 2)) .nil)))⟩
def l__law_poly_mult : Df := ⟨"_law_poly_mult", 2, 10, (.cons (.asg (.nm 2) (.dnew true)) (.cons (.for (.nm 3) (.ex (.var 0)) (.cons (.for (.nm 4) (.ex (.var 1)) (.cons (.asg (.nm 5) (.bi .tup .f (.cons (.lc .f [("_law_a", 8), ("_law_b", 9)] (.zip (.var 3) (.var 4)) (.tp (.cons (.nm 8) (.cons (.nm 9) .nil))) .non (.op .add .f (.var 8) (.var 9))) .nil))) (.cons (.asg (.nm 6) (.call "_law_times"
  (.cons (.ix (.var 0) (.var 3)) (.cons (.ix (.var 1) (.var 4)) .nil)))) (.cons (.sub (.var 2) (.var 5) (.call "_law_plus" (.cons (.dget (.var 2) (.var 5) (.tup (.cons (.cst (.int 0)) (.cons (.cst (.int 1)) .nil)))) (.cons (.var 6) .nil)))) .nil)))) .nil)) (.cons (.asg (.nm 7) (.dnew true)) (.frz 2 (.cons (.for (.nm 5) (.ex (.var 2)) (.cons (.ite (.cmp .ne (.ix (.ix (.var 2) (.var 5)) (.cst (.int
  0))) (.cst (.int 0))) (.cons (.sub (.var 7) (.var 5) (.ix (.var 2) (.var 5))) .nil) .nil) .nil)) (.cons (.ret (.frz (.var 7))) .nil))))))⟩
def l__law_near : Df := ⟨"_law_near", 3, 6, (.cons (.asg (.nm 3) (.bi .dic .t (.cons (.var 2) .nil))) (.cons (.for (.nm 4) (.ex (.var 1)) (.cons (.asg (.nm 5) (.call "_law_take" (.cons (.var 0) (.cons (.cst (.int 3)) .nil)))) (.cons (.ite (.cmp .lt (.var 5) (.cst (.int 2))) (.cons (.sub (.var 3) (.var 4) (.tup (.cons (.op .mul .f (.ix (.ix (.var 1) (.var 4)) (.cst (.int 0))) (.ix (.lst .f (.cons
  (.cst (.int 1)) (.cons (.neg (.cst (.int 1))) .nil))) (.var 5))) (.cons (.ix (.ix (.var 1) (.var 4)) (.cst (.int 1))) .nil)))) .nil) .nil) .nil))) (.cons (.ret (.frz (.var 3))) .nil)))⟩
def l__law_pairs_in : Df := ⟨"_law_pairs_in", 3, 12, (.cons (.asg (.nm 3) (.lst .t .nil)) (.cons (.for (.nm 4) (.ex (.var 1)) (.cons (.asg (.tp (.cons (.nm 5) (.cons (.nm 6) .nil))) (.ix (.var 1) (.var 4))) (.cons (.asg (.nm 7) (.op .mul .f (.call "_law_take" (.cons (.var 0) (.cons (.op .add .f (.cst (.int 1)) (.bi .min2 .f (.cons (.cst (.int 5)) (.cons (.bi .abs .f (.cons (.var 5) .nil)) .nil))))
  .nil))) (.ix (.lst .f (.cons (.cst (.int 1)) (.cons (.neg (.cst (.int 1))) .nil))) (.bi .int .f (.cons (.cmp .lt (.var 5) (.cst (.int 0))) .nil))))) (.cons (.exp (.mt .append (.var 3) (.cons (.tup (.cons (.var 4) (.cons (.call "_law_fraction" (.cons (.var 7) (.cons (.var 6) .nil))) .nil))) .nil))) (.cons (.exp (.mt .append (.var 3) (.cons (.tup (.cons (.var 4) (.cons (.call "_law_fraction" (.cons
  (.op .sub .f (.var 5) (.var 7)) (.cons (.var 6) .nil))) .nil))) .nil))) .nil))))) (.cons (.asg (.nm 8) (.bi .tup .f (.cons (.lc .f [("_law_j", 11)] (.rng (.cons (.var 2) .nil)) (.nm 11) .non (.call "_law_take" (.cons (.var 0) (.cons (.cst (.int 3)) .nil)))) .nil))) (.cons (.asg (.nm 9) (.call "_law_small" (.cons (.var 0) .nil))) (.cons (.asg (.nm 3) (.op .add .t (.var 3) (.lst .f (.cons (.tup
  (.cons (.var 8) (.cons (.var 9) .nil))) (.cons (.tup (.cons (.var 8) (.cons (.tup (.cons (.op .sub .f (.cst (.int 0)) (.ix (.var 9) (.cst (.int 0)))) (.cons (.ix (.var 9) (.cst (.int 1))) .nil))) .nil))) (.cons (.tup (.cons (.var 8) (.cons (.tup (.cons (.cst (.int 0)) (.cons (.cst (.int 1)) .nil))) .nil))) .nil)))))) (.cons (.asg (.nm 10) (.lst .t .nil)) (.cons (.whl (.cmp .gt (.bi .len .f (.cons
  (.var 3) .nil)) (.cst (.int 0))) (.cons (.exp (.mt .append (.var 10) (.cons (.mt .pop1 (.var 3) (.cons (.call "_law_take" (.cons (.var 0) (.cons (.bi .len .f (.cons (.var 3) .nil)) .nil))) .nil)) .nil))) .nil)) (.cons (.ret (.frz (.var 10))) .nil))))))))⟩
def l__law_at : Df := ⟨"_law_at", 2, 8, (.cons (.asg (.nm 2) (.tup (.cons (.cst (.int 0)) (.cons (.cst (.int 1)) .nil)))) (.cons (.for (.nm 3) (.ex (.var 0)) (.cons (.asg (.nm 4) (.ix (.var 0) (.var 3))) (.cons (.for (.tp (.cons (.nm 5) (.cons (.nm 6) .nil))) (.zip (.var 1) (.var 3)) (.cons (.for (.nm 7) (.rng (.cons (.var 6) .nil)) (.cons (.asg (.nm 4) (.call "_law_times" (.cons (.var 4) (.cons
  (.var 5) .nil)))) .nil)) .nil)) (.cons (.asg (.nm 2) (.call "_law_plus" (.cons (.var 2) (.cons (.var 4) .nil)))) .nil)))) (.cons (.ret (.var 2)) .nil)))⟩
def l__law_same : Df := ⟨"_law_same", 2, 2, (.cons (.ret (.cmp .eq (.bi .repr .f (.cons (.var 0) .nil)) (.bi .repr .f (.cons (.call "_law_poly_told" (.cons (.var 1) .nil)) .nil)))) .nil)⟩
def l__law_right : Df := ⟨"_law_right", 3, 11, (.cons (.par 3 4 (.call "_law_poly_told" (.cons (.var 0) .nil)) (.call "_law_poly_told" (.cons (.var 1) .nil))) (.cons (.asg (.nm 5) (.call "poly_plus" (.cons (.var 3) (.cons (.var 4) .nil)))) (.cons (.asg (.nm 6) (.call "poly_less" (.cons (.var 3) (.cons (.var 4) .nil)))) (.cons (.asg (.nm 7) (.call "poly_times" (.cons (.var 3) (.cons (.var 4)
  .nil)))) (.cons (.ite (.or (.not (.call "_law_same" (.cons (.var 5) (.cons (.call "_law_poly_add" (.cons (.var 0) (.cons (.var 1) (.cons (.cst (.int 1)) .nil)))) .nil)))) (.cons (.not (.call "_law_same" (.cons (.var 6) (.cons (.call "_law_poly_add" (.cons (.var 0) (.cons (.var 1) (.cons (.neg (.cst (.int 1))) .nil)))) .nil)))) .nil)) (.cons (.ret (.cst (.bl false))) .nil) .nil) (.cons (.ite (.not
  (.call "_law_same" (.cons (.var 7) (.cons (.call "_law_poly_mult" (.cons (.var 0) (.cons (.var 1) .nil))) .nil)))) (.cons (.ret (.cst (.bl false))) .nil) .nil) (.cons (.for (.nm 8) (.ex (.var 2)) (.cons (.par 9 10 (.call "_law_at" (.cons (.var 0) (.cons (.var 8) .nil))) (.call "_law_at" (.cons (.var 1) (.cons (.var 8) .nil)))) (.cons (.ite (.or (.cmp .ne (.bi .repr .f (.cons (.call "value" (.cons
  (.var 3) (.cons (.var 8) .nil))) .nil)) (.bi .repr .f (.cons (.var 9) .nil))) (.cons (.cmp .ne (.bi .repr .f (.cons (.call "value" (.cons (.var 7) (.cons (.var 8) .nil))) .nil)) (.bi .repr .f (.cons (.call "_law_times" (.cons (.var 9) (.cons (.var 10) .nil))) .nil))) .nil)) (.cons (.ret (.cst (.bl false))) .nil) .nil) (.cons (.ite (.or (.cmp .ne (.call "value" (.cons (.var 5) (.cons (.var 8)
  .nil))) (.call "_law_plus" (.cons (.var 9) (.cons (.var 10) .nil)))) (.cons (.cmp .ne (.call "value" (.cons (.var 6) (.cons (.var 8) .nil))) (.call "_law_plus" (.cons (.var 9) (.cons (.tup (.cons (.op .sub .f (.cst (.int 0)) (.ix (.var 10) (.cst (.int 0)))) (.cons (.ix (.var 10) (.cst (.int 1))) .nil))) .nil)))) .nil)) (.cons (.ret (.cst (.bl false))) .nil) .nil) .nil)))) (.cons (.ret (.cst (.bl
  true))) .nil))))))))⟩
def l_law : Df := ⟨"law", 1, 13, (.cons (.for (.nm 1) (.rng (.cons (.op .add .f (.cst (.int 1)) (.bi .len .f (.cons (.sl .f (.var 0) .non (.som (.cst (.int 3)))) .nil))) .nil)) (.cons (.asg (.nm 2) (.call "_law_box" (.cons (.var 0) (.cons (.var 1) .nil)))) (.cons (.asg (.nm 3) (.op .add .f (.cst (.int 1)) (.call "_law_take" (.cons (.var 2) (.cons (.cst (.int 3)) .nil))))) (.cons (.asg (.nm 4) (.ix
  (.lst .f (.cons (.cst (.int 4)) (.cons (.cst (.int 4)) (.cons (.cst (.int 3)) .nil)))) (.op .sub .f (.var 3) (.cst (.int 1))))) (.cons (.asg (.nm 5) (.call "_law_drawn_poly" (.cons (.var 2) (.cons (.var 3) (.cons (.cst (.int 5)) (.cons (.var 4) .nil)))))) (.cons (.asg (.nm 6) (.call "_law_drawn_poly" (.cons (.var 2) (.cons (.var 3) (.cons (.cst (.int 5)) (.cons (.var 4) .nil)))))) (.cons (.ite
  (.cmp .eq (.call "_law_take" (.cons (.var 2) (.cons (.cst (.int 2)) .nil))) (.cst (.int 0))) (.cons (.asg (.nm 6) (.call "_law_near" (.cons (.var 2) (.cons (.var 5) (.cons (.var 6) .nil))))) .nil) .nil) (.cons (.asg (.nm 7) (.call "_law_pairs_in" (.cons (.var 2) (.cons (.var 5) (.cons (.var 3) .nil))))) (.cons (.asg (.nm 8) (.bi .lis .f (.cons (.var 7) .nil))) (.cons (.ite (.or (.not (.call
  "_law_same" (.cons (.call "poly" (.cons (.var 7) .nil)) (.cons (.var 5) .nil)))) (.cons (.cmp .ne (.var 7) (.var 8)) (.cons (.not (.call "_law_same" (.cons (.call "poly" (.cons (.lst .f .nil) .nil)) (.cons (.frz (.dnew true)) .nil)))) .nil))) (.cons (.ret (.cst (.bl false))) .nil) .nil) (.cons (.asg (.nm 9) (.lc .f [("_law_j", 12)] (.rng (.cons (.var 3) .nil)) (.nm 12) .non (.call "_law_fraction"
  (.cons (.op .sub .f (.call "_law_take" (.cons (.var 2) (.cons (.cst (.int 1999)) .nil))) (.cst (.int 999))) (.cons (.op .add .f (.cst (.int 1)) (.call "_law_take" (.cons (.var 2) (.cons (.cst (.int 9)) .nil)))) .nil))))) (.cons (.asg (.nm 10) (.lst .f (.cons (.call "_law_point" (.cons (.var 2) (.cons (.var 3) .nil))) (.cons (.bi .tup .f (.cons (.var 9) .nil)) .nil)))) (.cons (.for (.nm 11) (.ex
  (.tup (.cons (.tup (.cons (.var 5) (.cons (.var 6) .nil))) (.cons (.tup (.cons (.var 6) (.cons (.var 5) .nil))) (.cons (.tup (.cons (.var 5) (.cons (.var 5) .nil))) (.cons (.tup (.cons (.frz (.dnew true)) (.cons (.var 5) .nil))) .nil)))))) (.cons (.ite (.not (.call "_law_right" (.cons (.ix (.var 11) (.cst (.int 0))) (.cons (.ix (.var 11) (.cst (.int 1))) (.cons (.sl .f (.var 10) .non (.som (.cst
  (.int 1)))) .nil))))) (.cons (.ret (.cst (.bl false))) .nil) .nil) .nil)) (.cons (.ite (.not (.call "_law_right" (.cons (.var 5) (.cons (.var 6) (.cons (.sl .f (.var 10) (.som (.cst (.int 1))) .non) .nil))))) (.cons (.ret (.cst (.bl false))) .nil) .nil) .nil)))))))))))))) (.cons (.ret (.cst (.bl true))) .nil))⟩
def lawTab (f : String) : Option Df := match f with
  | "poly" => some c_poly
  | "turned" => some c_turned
  | "power_of" => some l_power_of
  | "value" => some l_value
  | "_law_plus" => some c__law_plus
  | "_law_times" => some c__law_times
  | "_law_poly_add" => some c__law_poly_add
  | "_law_poly_mult" => some l__law_poly_mult
  | "_law_point" => some c__law_point
  | "_law_near" => some l__law_near
  | "_law_pairs_in" => some l__law_pairs_in
  | "_law_at" => some l__law_at
  | "_law_same" => some l__law_same
  | "_law_right" => some l__law_right
  | "law" => some l_law
  | _ => none
abbrev tab := tabOf lawTab
def e_common : Ent := ⟨c_common, ["one", "other"], ["one", "other"], top 3⟩
def e_fraction : Ent := ⟨c_fraction, ["n", "d", "part"], ["n", "d"], top 4⟩
def e_plus : Ent := ⟨c_plus, ["one", "other"], ["one", "other"], top 5⟩
def e_less : Ent := ⟨c_less, ["one", "other"], ["one", "other"], top 6⟩
def e_times : Ent := ⟨c_times, ["one", "other"], ["one", "other"], top 7⟩
def e_poly : Ent := ⟨c_poly, ["terms", "found", "powers", "f"], ["terms"], top 9⟩
def e_turned : Ent := ⟨c_turned, ["one", "powers", "f"], ["one"], top 10⟩
def e_poly_plus : Ent := ⟨c_poly_plus, ["one", "other"], ["one", "other"], top 11⟩
def e_poly_less : Ent := ⟨c_poly_less, ["one", "other"], ["one", "other"], top 12⟩
def e_powers_added : Ent := ⟨c_powers_added, ["one", "other", "here", "there"], ["one", "other"], top 13⟩
def e_poly_times : Ent := ⟨c_poly_times, ["one", "other", "terms", "powers", "f", "more", "g"], ["one", "other"], top 14⟩
def e_power_of : Ent := ⟨l_power_of, ["f", "many", "found", "k"], ["f", "many"], top 15⟩
def e_value : Ent := ⟨l_value, ["one", "point", "found", "powers", "f", "many", "here"], ["one", "point"], top 16⟩
def e__law_box : Ent := ⟨c__law_box, ["_law_script", "_law_k", "_law_cell", "_law_seed"], ["_law_script", "_law_k"], top 18⟩
def e__law_take : Ent := ⟨c__law_take, ["_law_box_here", "_law_wide", "_law_digit", "_law_one"], ["_law_box_here", "_law_wide"], top 19⟩
def e__law_fraction : Ent := ⟨c__law_fraction, ["_law_n", "_law_d", "_law_one", "_law_two"], ["_law_n", "_law_d"], top 20⟩
def e__law_plus : Ent := ⟨c__law_plus, ["_law_one", "_law_other"], ["_law_one", "_law_other"], top 21⟩
def e__law_times : Ent := ⟨c__law_times, ["_law_one", "_law_other"], ["_law_one", "_law_other"], top 22⟩
def e__law_poly_add : Ent := ⟨c__law_poly_add, ["_law_one", "_law_other", "_law_sign", "_law_found", "_law_powers", "_law_more", "_law_kept"], ["_law_one", "_law_other", "_law_sign"], top 23⟩
def e__law_poly_mult : Ent := ⟨l__law_poly_mult, ["_law_one", "_law_other", "_law_found", "_law_left", "_law_right_here", "_law_powers", "_law_more", "_law_kept", "_law_a", "_law_b"], ["_law_one", "_law_other"], top 24⟩
def e__law_poly_told : Ent := ⟨c__law_poly_told, ["_law_sums", "_law_powers"], ["_law_sums"], top 25⟩
def e__law_number : Ent := ⟨c__law_number, ["_law_box_here", "_law_kind"], ["_law_box_here"], top 26⟩
def e__law_small : Ent := ⟨c__law_small, ["_law_box_here"], ["_law_box_here"], top 27⟩
def e__law_point : Ent := ⟨c__law_point, ["_law_box_here", "_law_many", "_law_k"], ["_law_box_here", "_law_many"], top 28⟩
def e__law_drawn_poly : Ent := ⟨c__law_drawn_poly, ["_law_box_here", "_law_many", "_law_most", "_law_top", "_law_found", "_law_k", "_law_f", "_law_powers", "_law_j"], ["_law_box_here", "_law_many", "_law_most", "_law_top"], top 29⟩
def e__law_near : Ent := ⟨l__law_near, ["_law_box_here", "_law_one", "_law_other", "_law_found", "_law_powers", "_law_turn"], ["_law_box_here", "_law_one", "_law_other"], top 30⟩
def e__law_pairs_in : Ent := ⟨l__law_pairs_in, ["_law_box_here", "_law_one", "_law_many", "_law_pairs", "_law_powers", "_law_n", "_law_d", "_law_part", "_law_extra", "_law_f", "_law_found", "_law_j"], ["_law_box_here", "_law_one", "_law_many"], top 31⟩
def e__law_at : Ent := ⟨l__law_at, ["_law_whole", "_law_point_here", "_law_found", "_law_powers", "_law_one", "_law_f", "_law_power", "_law_turn"], ["_law_whole", "_law_point_here"], top 32⟩
def e__law_same : Ent := ⟨l__law_same, ["_law_found", "_law_due"], ["_law_found", "_law_due"], top 33⟩
def e__law_right : Ent := ⟨l__law_right, ["_law_one", "_law_other", "_law_points", "_law_mine", "_law_theirs", "_law_both", "_law_taken", "_law_product", "_law_point_here", "_law_f", "_law_g"], ["_law_one", "_law_other", "_law_points"], top 34⟩
def e_law : Ent := ⟨l_law, ["_law_script", "_law_k", "_law_box_here", "_law_many", "_law_top", "_law_one", "_law_other", "_law_pairs", "_law_kept", "_law_far", "_law_points", "_law_some", "_law_j"], ["_law_script"], top 35⟩
def ents : List Ent := [e_common, e_fraction, e_plus, e_less, e_times, e_poly, e_turned, e_poly_plus, e_poly_less, e_powers_added, e_poly_times, e_power_of, e_value, e__law_box, e__law_take, e__law_fraction, e__law_plus, e__law_times, e__law_poly_add, e__law_poly_mult, e__law_poly_told, e__law_number, e__law_small, e__law_point, e__law_drawn_poly, e__law_near, e__law_pairs_in, e__law_at, e__law_same, e__law_right, e_law]
def bl : List Str := ["abs", "dict", "int", "len", "list", "min", "range", "repr", "sorted", "tuple", "zip"]
def gl : List (Str × D) := [("NOUGHT", (.tup [(.int 0), (.int 1)])), ("ONE", (.tup [(.int 1), (.int 1)]))]
def fl : List String := ["_law_at", "_law_box", "_law_drawn_poly", "_law_fraction", "_law_near", "_law_number", "_law_pairs_in", "_law_plus", "_law_point", "_law_poly_add", "_law_poly_mult", "_law_poly_told", "_law_right", "_law_same", "_law_small", "_law_take", "_law_times", "common", "fraction", "less", "plus", "poly", "poly_less", "poly_plus", "poly_times", "power_of", "powers_added", "times", "turned", "value"]
theorem entsB : ents.all (entB bl gl fl) = true := by decide +kernel
theorem entsT : ∀ e ∈ ents, tab e.d.name = some e.d := by
  unfold ents
  repeat (first | (refine List.forall_mem_cons.mpr ⟨rfl, ?_⟩) | exact fun _ h => nomatch h)
theorem entsF : ∀ x ∈ fl, ∃ e ∈ ents, e.d.name = x := by
  have h : (fl.all fun x => ents.any fun e => decide (e.d.name = x)) = true := by decide +kernel
  intro x hx
  obtain ⟨e, he, h2⟩ := List.any_eq_true.mp (List.all_eq_true.mp h x hx)
  exact ⟨e, he, of_decide_eq_true h2⟩
theorem entsP : ∀ e ∈ ents, BindP e := by
  unfold ents
  refine List.forall_mem_cons.mpr ⟨fun _ _ _ _ _ _ us hl => match us, hl with | [_, _], _ => rfl, List.forall_mem_cons.mpr ⟨fun _ _ _ _ _ _ us hl => match us, hl with | [_, _], _ => rfl, List.forall_mem_cons.mpr ⟨fun _ _ _ _ _ _ us hl => match us, hl with | [_, _], _ => rfl, List.forall_mem_cons.mpr ⟨fun _ _ _ _ _ _ us hl => match us, hl with | [_, _], _ => rfl, List.forall_mem_cons.mpr ⟨fun _ _ _ _ _ _ us hl => match us, hl with | [_, _], _ => rfl, List.forall_mem_cons.mpr ⟨fun _ _ _ _ _ _ us hl => match us, hl with | [_], _ => rfl, List.forall_mem_cons.mpr ⟨fun _ _ _ _ _ _ us hl => match us, hl with | [_], _ => rfl, List.forall_mem_cons.mpr ⟨fun _ _ _ _ _ _ us hl => match us, hl with | [_, _], _ => rfl, List.forall_mem_cons.mpr ⟨fun _ _ _ _ _ _ us hl => match us, hl with | [_, _], _ => rfl, List.forall_mem_cons.mpr ⟨fun _ _ _ _ _ _ us hl => match us, hl with | [_, _], _ => rfl, List.forall_mem_cons.mpr ⟨fun _ _ _ _ _ _ us hl => match us, hl with | [_, _], _ => rfl, List.forall_mem_cons.mpr ⟨fun _ _ _ _ _ _ us hl => match us, hl with | [_, _], _ => rfl, List.forall_mem_cons.mpr ⟨fun _ _ _ _ _ _ us hl => match us, hl with | [_, _], _ => rfl, List.forall_mem_cons.mpr ⟨fun _ _ _ _ _ _ us hl => match us, hl with | [_, _], _ => rfl, List.forall_mem_cons.mpr ⟨fun _ _ _ _ _ _ us hl => match us, hl with | [_, _], _ => rfl, List.forall_mem_cons.mpr ⟨fun _ _ _ _ _ _ us hl => match us, hl with | [_, _], _ => rfl, List.forall_mem_cons.mpr ⟨fun _ _ _ _ _ _ us hl => match us, hl with | [_, _], _ => rfl, List.forall_mem_cons.mpr ⟨fun _ _ _ _ _ _ us hl => match us, hl with | [_, _], _ => rfl, List.forall_mem_cons.mpr ⟨fun _ _ _ _ _ _ us hl => match us, hl with | [_, _, _], _ => rfl, List.forall_mem_cons.mpr ⟨fun _ _ _ _ _ _ us hl => match us, hl with | [_, _], _ => rfl, List.forall_mem_cons.mpr ⟨fun _ _ _ _ _ _ us hl => match us, hl with | [_], _ => rfl, List.forall_mem_cons.mpr ⟨fun _ _ _ _ _ _ us hl => match us, hl with | [_], _ => rfl, List.forall_mem_cons.mpr ⟨fun _ _ _ _ _ _ us hl => match us, hl with | [_], _ => rfl, List.forall_mem_cons.mpr ⟨fun _ _ _ _ _ _ us hl => match us, hl with | [_, _], _ => rfl, List.forall_mem_cons.mpr ⟨fun _ _ _ _ _ _ us hl => match us, hl with | [_, _, _, _], _ => rfl, List.forall_mem_cons.mpr ⟨fun _ _ _ _ _ _ us hl => match us, hl with | [_, _, _], _ => rfl, List.forall_mem_cons.mpr ⟨fun _ _ _ _ _ _ us hl => match us, hl with | [_, _, _], _ => rfl, List.forall_mem_cons.mpr ⟨fun _ _ _ _ _ _ us hl => match us, hl with | [_, _], _ => rfl, List.forall_mem_cons.mpr ⟨fun _ _ _ _ _ _ us hl => match us, hl with | [_, _], _ => rfl, List.forall_mem_cons.mpr ⟨fun _ _ _ _ _ _ us hl => match us, hl with | [_, _, _], _ => rfl, List.forall_mem_cons.mpr ⟨fun _ _ _ _ _ _ us hl => match us, hl with | [_], _ => rfl, fun _ h => nomatch h⟩⟩⟩⟩⟩⟩⟩⟩⟩⟩⟩⟩⟩⟩⟩⟩⟩⟩⟩⟩⟩⟩⟩⟩⟩⟩⟩⟩⟩⟩⟩
def loose : List Str := ["NOUGHT", "ONE", "common", "fraction", "plus", "less", "times", "poly", "turned", "poly_plus", "poly_less", "powers_added", "poly_times", "power_of", "value", "_law_box", "_law_take", "_law_fraction", "_law_plus", "_law_times", "_law_poly_add", "_law_poly_mult", "_law_poly_told", "_law_number", "_law_small", "_law_point", "_law_drawn_poly", "_law_near", "_law_pairs_in", "_law_at", "_law_same", "_law_right"]
abbrev R : PySem.W.OpenRow := PySem.W.OpenLaw.row PySem.Challenge.rw_undivide_k03_whole_polynomials_by_points
abbrev hk : PySem.W.Hook := hookX 5 ents bl gl
def ob (s : PySem.W.SharedT) : AlX := obsXG 5 ents bl gl (HandSHeadRun.getT s)
theorem ob_eq (s : PySem.W.SharedT) : ob s = hk.obs s.abs := obsXG_eq (HandSHeadRun.getT_eq s)
theorem run (w : World) : HandSHeadRun.RunEq R (PySem.W.view R.prog [35]) hk ob 4000 loose w := by
  intro os
  kernel_rfl

end U.K03

/-! Pk03: the order of pairs; one sorted form of each polynomial; the program's poly. -/
namespace U.K03
open PySem Deep
local macro_rules | `(tactic| walk_at "ev") => `(tactic| try simp only [es_nil, es_cons, es_asg, es_par, es_sub, es_exp, es_ret, es_retN, es_ite, es_for, es_brk, es_cnt, es_pas, tn_nm, tn_tp, tns_nil, tns_cons, tnsLen,
  ev_v0, ev_vs, ev_cst, ev_glb, ev_typ, ev_op, ev_neg, ev_cmp, ev_chn, ev_and, ev_or, ev_not, ev_ite, ev_tup, ev_lst, ev_ix, ev_sl, ev_call, ev_bi, ev_mt, ev_tm, isStr_s, ev_dnew, ev_dget, ev_mxd, ev_lrng, lrng_i, dnew_t, dnew_k, es_frz, fz_some, walk_dt, walk_dk, ev_frz, ev_lc, ea_nil, ea_cons, ean_nil, ean_cons, eor_nil, eor_cons, eo_non, eo_som, ec_non, ec_som, ei_ex, ei_rng, ei_enm, ei_zip, ei_rev,
  bD_bl, tn_fD, len_fD, kit_fD, walk_fD, ix_f0, ix_f1, op_add_i, op_add_s, op_add_t, op_add_l, op_sub_i, op_mul_i, op_mul_s, op_mul_l, op_fdiv_i, op_mod_i, op_pow_i, neg_i, cmp_eq, cmp_ne, eq_i, eq_s, eq_b, cmp_lt, cmp_le, cmp_gt, cmp_ge, ix_tup, ix_lst, ix_box, ix_scr, at_some, lc_nil, lc_cons, newL_f, newL_t, newL_b, len_str, len_tup, len_lst, len_scr, bi_abs, bi_max2, bi_min2, bi_int_i, bi_int_b, bi_tup_t, bi_tup_l, set_box, walk_tup, walk_lst, walk_str, rng_1, rng_2, sl_tup, sl_lst, sl_scr, wipe_nil, wipe_cons, bi_isi, kit_tup, kit_int, kit_str, kit_bl, kit_non, kit_lst, kb_tt, kb_ii, kb_ib, kb_ll, kb_it, kb_lt, kb_tl, kb_ss, w_plus_plus, w_plus_less, w_plus_times, w_plus_over, w_plus_number, w_plus_letter, w_less_plus, w_less_less, w_less_times, w_less_over, w_less_number, w_less_letter, w_times_plus, w_times_less, w_times_times, w_times_over, w_times_number, w_times_letter, w_over_plus, w_over_less, w_over_times, w_over_over, w_over_number, w_over_letter, w_number_plus, w_number_less, w_number_times, w_number_over, w_number_number, w_number_letter, w_letter_plus, w_letter_less, w_letter_times, w_letter_over, w_letter_number, w_letter_letter, in_plus, in_less, in_times, in_over, in_number, in_letter, at_0, at_1, at_2, cmp_inn_t, cmp_notin_t, flat_s, all_ss,
  startD, List.map_cons, List.map_nil, List.length_cons, List.length_nil, List.replicate, Nat.sub_self, Nat.reduceSub, List.cons_append, List.nil_append, List.append_nil, List.getElem?_cons_zero, List.getElem?_cons_succ, List.set_cons_zero, List.set_cons_succ, Nat.reduceAdd, Nat.zero_add, Nat.add_zero, decide_eq_true_eq, Bool.false_eq_true, if_false, if_true, reduceIte, Bool.not_true, Bool.not_false, Bool.not_eq_true', decide_eq_false_iff_not, ite_not, decide_true, decide_false, eq_self_iff_true, List.length_map, true_and, and_true, reduceCtorEq, Bool.true_eq_false, sizeLine_eq, Nat.reduceLeDiff])
set_option hygiene false in
local macro_rules | `(tactic| walk_at "evt") => `(tactic| simp only [es_nil, es_cons, es_asg, es_par, es_sub, es_exp, es_ret, es_retN, es_ite, es_for, es_brk, es_cnt, es_pas, tn_nm, tn_tp, tns_nil, tns_cons, tnsLen,
  ev_v0, ev_vs, ev_cst, ev_glb, ev_typ, ev_op, ev_neg, ev_cmp, ev_chn, ev_and, ev_or, ev_not, ev_ite, ev_tup, ev_lst, ev_ix, ev_sl, ev_call, ev_bi, ev_mt, ev_tm, isStr_s, ev_dnew, ev_dget, ev_mxd, ev_lrng, lrng_i, dnew_t, dnew_k, es_frz, fz_some, walk_dt, walk_dk, ev_frz, ev_lc, ea_nil, ea_cons, ean_nil, ean_cons, eor_nil, eor_cons, eo_non, eo_som, ec_non, ec_som, ei_ex, ei_rng, ei_enm, ei_zip, ei_rev,
  bD_bl, tn_fD, len_fD, kit_fD, walk_fD, ix_f0, ix_f1, op_add_i, op_add_s, op_add_t, op_add_l, op_sub_i, op_mul_i, op_mul_s, op_mul_l, op_fdiv_i, op_mod_i, op_pow_i, neg_i, cmp_eq, cmp_ne, eq_i, eq_s, eq_b, cmp_lt, cmp_le, cmp_gt, cmp_ge, ix_tup, ix_lst, ix_box, ix_scr, at_some, lc_nil, lc_cons, newL_f, newL_t, newL_b, len_str, len_tup, len_lst, len_scr, bi_abs, bi_max2, bi_min2, bi_int_i, bi_int_b, bi_tup_t, bi_tup_l, set_box, walk_tup, walk_lst, walk_str, rng_1, rng_2, sl_tup, sl_lst, sl_scr, wipe_nil, wipe_cons, bi_isi, kit_tup, kit_int, kit_str, kit_bl, kit_non, kit_lst, kb_tt, kb_ii, kb_ib, kb_ll, kb_it, kb_lt, kb_tl, kb_ss, w_plus_plus, w_plus_less, w_plus_times, w_plus_over, w_plus_number, w_plus_letter, w_less_plus, w_less_less, w_less_times, w_less_over, w_less_number, w_less_letter, w_times_plus, w_times_less, w_times_times, w_times_over, w_times_number, w_times_letter, w_over_plus, w_over_less, w_over_times, w_over_over, w_over_number, w_over_letter, w_number_plus, w_number_less, w_number_times, w_number_over, w_number_number, w_number_letter, w_letter_plus, w_letter_less, w_letter_times, w_letter_over, w_letter_number, w_letter_letter, in_plus, in_less, in_times, in_over, in_number, in_letter, at_0, at_1, at_2, cmp_inn_t, cmp_notin_t, flat_s, all_ss,
  startD, List.map_cons, List.map_nil, List.length_cons, List.length_nil, List.replicate, Nat.sub_self, Nat.reduceSub, List.cons_append, List.nil_append, List.append_nil, List.getElem?_cons_zero, List.getElem?_cons_succ, List.set_cons_zero, List.set_cons_succ, Nat.reduceAdd, Nat.zero_add, Nat.add_zero, decide_eq_true_eq, Bool.false_eq_true, if_false, if_true, reduceIte, Bool.not_true, Bool.not_false, Bool.not_eq_true', decide_eq_false_iff_not, ite_not, decide_true, decide_false, eq_self_iff_true, List.length_map, true_and, and_true, reduceCtorEq, Bool.true_eq_false, sizeLine_eq, Nat.reduceLeDiff] at tl)
theorem pk0 : True := trivial
theorem zipL_fp : ∀ (b : List Rat) (a : List Int), zipL (b.map fD) (a.map D.int) = (a.zip b).map fun z => .tup [fD z.2, .int z.1]
  | [], [] => rfl
  | [], _ :: _ => rfl
  | _ :: _, [] => rfl
  | y :: b, x :: a => by simp only [List.map_cons, zipL, List.zip_cons_cons, zipL_fp b a]
theorem mul_powS (m f : Rat) (j : Nat) : m * powQ f j * f = m * powQ f (j + 1) := by
  show _ = m * (powQ f j * f)
  rw [Rat.mul_assoc]
theorem show_pol {p : Pol} (h1 : ∀ t ∈ p, t.1.length ≤ 3 ∧ ∀ n ∈ t.1, 0 ≤ n ∧ n < 100) (h2 : ∀ t ∈ p, RB t.2 64) (hz : p.length ≤ 60) : ShowOk (.tuple (p.map prP)) := by
  have h : ∀ x ∈ p.map prP, TM 2 8 90 x := fun x hx => by
    obtain ⟨t, ht, rfl⟩ := List.mem_map.mp hx
    obtain ⟨a1, a2⟩ := h1 t ht
    have nb := h2 t ht
    have i1 : TM 1 3 90 (pwP t.1) := by
      refine (TM.tuple (d := 0) (b := 0) fun y hy => ?_).mono (by omega) (by rw [List.length_map]; omega)
      obtain ⟨n, hn, rfl⟩ := List.mem_map.mp hy
      have := a2 n hn
      exact TM.int (k := 40) (by decide) (by decide) (by omega) (by decide)
    have i2 : TM 1 3 90 (fP t.2) := by
      refine (TM.tuple (d := 0) (b := 0) (ps := [.int t.2.num, .int t.2.den]) fun y hy => ?_).mono (by omega) (by simp)
      rcases List.mem_cons.mp hy with rfl | hy
      · exact TM.int (k := 64) (by decide) (by decide) nb.nn (by decide)
      · rw [List.mem_singleton.mp hy]
        exact TM.int (k := 64) (by decide) (by decide) nb.dn (by decide)
    refine (TM.tuple (d := 1) (b := 3) (ps := [pwP t.1, fP t.2]) fun y hy => ?_).mono (by omega) (by simp)
    rcases List.mem_cons.mp hy with rfl | hy
    · exact i1
    · rw [List.mem_singleton.mp hy]
      exact i2
  refine (TM.tuple h).ok (by decide) (by decide) ?_
  rw [List.length_map]
  omega
theorem show_f {q : Rat} (h : RB q 1000) : ShowOk (fP q) := by
  have i2 : TM 1 3 1100 (fP q) := by
    refine (TM.tuple (d := 0) (b := 0) (ps := [.int q.num, .int q.den]) fun y hy => ?_).mono (by omega) (by simp)
    rcases List.mem_cons.mp hy with rfl | hy
    · exact TM.int (k := 1000) (by decide) (by decide) h.nn (by decide)
    · rw [List.mem_singleton.mp hy]
      exact TM.int (k := 1000) (by decide) (by decide) h.dn (by decide)
  exact i2.ok (by decide) (by decide) (by decide)
section
variable {k : Nat} {h : DH} {Q : DQ} {E : XQ}
theorem x_at {p : Pol} {pt : List Rat} {b bp e c : Nat} (hz : p.length ≤ 1000000) (nd : (p.map fun t => t.1).Nodup)
    (hb : ∀ t ∈ p, RB t.2 b) (hbp : ∀ f ∈ pt, RB f bp) (he : ∀ t ∈ p, ∀ n ∈ t.1, 0 ≤ n ∧ n ≤ (e : Int)) (hpl : pt.length ≤ 3) (hl : b + 3 * (e * bp + 1) ≤ 4000) (hle : (e + 1) * (bp + 1) ≤ 4000)
    (hc : ∀ done rest, p = done ++ rest → RB (valQ pt done) c) (hcl : c ≤ 4000) (q : Q (fD (valQ pt p)) h) : callD tab (k + 3) "_law_at" [pdD p, ptsD pt] h Q E := by
  refine call_of l__law_at rfl rfl ?_
  unfold l__law_at ptsD
  walk_at "ev"
  rw [walk_pd]
  refine forD_by (fun r σ g => g = h ∧ ∃ done rest : Pol, p = done ++ rest ∧ r = rest.map (fun t => pwD t.1) ∧ ∃ o3 o4 o5 o6 o7, σ = [some (pdD p), some (.tup (pt.map fD)), some (fD (valQ pt done)), o3, o4, o5, o6, o7]) ?_ ?_ _ _ _ ⟨rfl, [], p, rfl, rfl, _, _, _, _, _, rfl⟩
  · rintro x r σ g ⟨rfl, done, rest, e1, er, o3, o4, o5, o6, o7, rfl⟩ N hN
    refine ⟨trivial, ?_⟩
    cases rest with
    | nil => cases er
    | cons t rest =>
      rw [List.map_cons] at er
      cases er
      have ht : t ∈ p := by rw [e1]; simp
      have ec : valK (pkK p) (pwK t.1) = some (fD t.2) := by rw [valK_pk, coef_of_mem nd ht]; rfl
      walk_at "ev"
      unfold pdD
      rw [ix_dt]
      refine dget_dt (dKey_pw _) (keyOk_pw _) ec ?_
      unfold pwD
      walk_at "ev"
      rw [zip_tt, zipL_fp]
      have hzl : (t.1.zip pt).length ≤ 3 := by rw [List.length_zip]; omega
      have hzm : ∀ z ∈ t.1.zip pt, RB z.2 bp ∧ (0 ≤ z.1 ∧ z.1.toNat ≤ e) := fun z hz => by
        have h1 := List.of_mem_zip (a := z.1) (b := z.2) hz
        have h2 := he t ht z.1 h1.1
        exact ⟨hbp _ h1.2, h2.1, by omega⟩
      refine forD_by (fun r σ g' => g' = g ∧ ∃ d2 r2 : List (Int × Rat), t.1.zip pt = d2 ++ r2 ∧ r = r2.map (fun z => .tup [fD z.2, .int z.1]) ∧ ∃ o5 o6 o7, σ = [some (pdD p), some (.tup (pt.map fD)), some (fD (valQ pt done)), some (.tup (t.1.map D.int)), some (fD (monQ t.2 d2)), o5, o6, o7]) ?_ ?_ _ _ _ ⟨rfl, [], _, rfl, rfl, _, _, _, rfl⟩
      · rintro x r σ g' ⟨rfl, d2, r2, e2, er2, o5, o6, o7, rfl⟩ N2 hN2
        refine ⟨trivial, ?_⟩
        cases r2 with
        | nil => cases er2
        | cons z r2 =>
          rw [List.map_cons] at er2
          cases er2
          have hz1 : z ∈ t.1.zip pt := by rw [e2]; simp
          obtain ⟨h1, h2, h3⟩ := hzm z hz1
          obtain ⟨zi, zf⟩ := z
          obtain ⟨n, rfl⟩ := Int.eq_ofNat_of_zero_le h2
          simp only [Int.toNat_natCast] at h3
          walk_at "ev"
          have h6 : RB (monQ t.2 d2) (b + d2.length * (e * bp + 1)) := RB.mon d2 (hb t ht) fun y hy => by
            have := hzm y (by rw [e2]; simp [hy])
            exact ⟨this.1, this.2.2⟩
          have h7 : d2.length + 1 ≤ 3 := by
            rw [e2, List.length_append, List.length_cons] at hzl
            omega
          have h8 : (d2.length + 1) * (e * bp + 1) ≤ 3 * (e * bp + 1) := Nat.mul_le_mul_right _ h7
          rw [Nat.succ_mul] at h8
          have h9 : (n + 1) * (bp + 1) ≤ (e + 1) * (bp + 1) := Nat.mul_le_mul_right _ (by omega)
          have h10 : n + 1 ≤ (n + 1) * (bp + 1) := Nat.le_mul_of_pos_right _ (by omega)
          refine ⟨by omega, by omega, ?_⟩
          rw [Int.toNat_natCast]
          refine forD_by (fun r σ g'' => g'' = g' ∧ ∃ j : Nat, j + r.length = n ∧ ∃ o7, σ = [some (pdD p), some (.tup (pt.map fD)), some (fD (valQ pt done)), some (.tup (t.1.map D.int)), some (fD (monQ t.2 d2 * powQ zf j)), some (fD zf), some (.int (n : Int)), o7]) ?_ ?_ _ _ _ ⟨rfl, 0, by rw [rngL_len]; simp, _, by show _ = [_, _, _, _, some (fD (monQ t.2 d2 * 1)), _, _, _]; rw [Rat.mul_one]⟩
          · rintro x r σ g'' ⟨rfl, j, hj, o7, rfl⟩ N3 hN3
            rw [List.length_cons] at hj
            refine ⟨trivial, ?_⟩
            walk_at "ev"
            have h11 : (j + 1) * bp ≤ e * bp := Nat.mul_le_mul_right _ (by omega)
            rw [Nat.succ_mul] at h11
            refine x_ltimes rfl (h6.mul (h1.pow j)) h1 (by omega) ?_
            rw [mul_powS]
            exact hN3 _ _ ⟨rfl, j + 1, by omega, _, rfl⟩
          · rintro σ g'' ⟨rfl, j, hj, o7, rfl⟩
            refine ⟨trivial, ?_⟩
            rw [List.length_nil, Nat.add_zero] at hj
            subst hj
            exact hN2 _ _ ⟨rfl, d2 ++ [((j : Int), zf)], r2, by simp [e2], rfl, _, _, _, by rw [mon_snoc]; rfl⟩
      · rintro σ g' ⟨rfl, d2, r2, e2, er2, o5, o6, o7, rfl⟩
        refine ⟨trivial, ?_⟩
        have : r2 = [] := by
          cases r2 with
          | nil => rfl
          | cons z r2 => cases er2
        subst this
        rw [List.append_nil] at e2
        subst e2
        walk_at "ev"
        have h6 : RB (monQ t.2 (t.1.zip pt)) (b + (t.1.zip pt).length * (e * bp + 1)) := RB.mon _ (hb t ht) fun y hy => ⟨(hzm y hy).1, (hzm y hy).2.2⟩
        have h8 : (t.1.zip pt).length * (e * bp + 1) ≤ 3 * (e * bp + 1) := Nat.mul_le_mul_right _ hzl
        refine x_lplus rfl (hc done _ e1) h6 (by omega) ?_
        exact hN _ _ ⟨rfl, done ++ [t], rest, by simp [e1], rfl, _, _, _, _, _, by rw [val_snoc]⟩
  · rintro σ g ⟨rfl, done, rest, e1, er, o3, o4, o5, o6, o7, rfl⟩
    refine ⟨trivial, ?_⟩
    have : rest = [] := by
      cases rest with
      | nil => rfl
      | cons t rest => cases er
    subst this
    rw [List.append_nil] at e1
    subst e1
    walk_at "ev"
    exact q
theorem x_near {a : Addr} {m b : Nat} {top : Int} {p1 p2 : Pol} (hp1 : PolOk m top b p1) (hp2 : PolOk m top b p2) {F : Rat → Prop} (hF1 : ∀ t ∈ p1, F t.2 ∧ F (-t.2)) (hF2 : ∀ t ∈ p2, F t.2) (ht : top ≤ 4) (hm : 1 ≤ m ∧ m ≤ 3) (hbl : b ≤ 1000) (hz : p1.length + p2.length ≤ 1000) (q : ∀ p : Pol, PolOk m top b p → (∀ t ∈ p, F t.2) → p.length ≤ p1.length + p2.length → Q (pdD p) h) : callD tab (k + 3) "_law_near" [.box a, pdD p1, pdD p2] h Q E := by
  refine call_of l__law_near rfl rfl ?_
  have sz : sizeLine = 16777216 := rfl
  unfold l__law_near
  walk_at "ev"
  refine bi_dic hp2 ht hm fun d hd => ?_
  walk_at "ev"
  rw [walk_pd]
  refine forD_by (fun r σ g => ∃ done rest p : Pol, p1 = done ++ rest ∧ r = rest.map (fun t => pwD t.1) ∧ PolOk m top b p ∧ (∀ t ∈ p, F t.2) ∧ p.length ≤ done.length + p2.length ∧ g = updD h d (.dT (pkK p)) ∧ ∃ o4 o5, σ = [some (.box a), some (pdD p1), some (pdD p2), some (.ref d), o4, o5]) ?_ ?_ _ _ _ ⟨[], p1, p2, rfl, rfl, hp2, hF2, by simp, rfl, _, _, rfl⟩
  · rintro x r σ g ⟨done, rest, p, e1, er, hp, hFp, hlp, rfl, o4, o5, rfl⟩ N hN
    refine ⟨trivial, ?_⟩
    cases rest with
    | nil => cases er
    | cons t rest =>
      rw [List.map_cons] at er
      cases er
      have ht1 : t ∈ p1 := by rw [e1]; simp
      have hlen : done.length + 1 ≤ p1.length := by rw [e1, List.length_append, List.length_cons]; omega
      have ec : valK (pkK p1) (pwK t.1) = some (fD t.2) := by rw [valK_pk, coef_of_mem hp1.nd ht1]; rfl
      walk_at "ev"
      refine x_take64 (by omega) (by omega) fun r1 g0 g1 => ?_
      walk_at "ev"
      have step : ∀ v : Rat, v ≠ 0 → RB v b → F v → ∀ o5, N [some (.box a), some (pdD p1), some (pdD p2), some (.ref d), some (pwD t.1), o5] (updD h d (.dT (putD (pkK p) (pwK t.1) (fD v)))) := fun v h1 h2 h3 o5 => by
        rw [putD_pk]
        refine hN _ _ ⟨done ++ [t], rest, putP p t.1 v, by simp [e1], rfl, hp.put (hp1.ln t ht1) (hp1.pw t ht1) h1 h2, (fun u hu => by
          rcases putP_mem hu with h' | rfl
          · exact hFp u h'
          · exact h3), ?_, rfl, _, _, rfl⟩
        have := putP_len p t.1 v
        rw [List.length_append, List.length_singleton]
        omega
      split
      · rename_i hlt
        have : r1 = 0 ∨ r1 = 1 := by omega
        unfold pdD
        rw [ix_dt]
        refine dget_dt (dKey_pw _) (keyOk_pw _) ec ?_
        rcases this with rfl | rfl
        · skip
          rw [ix_f0]
          walk_at "ev"
          refine ⟨mulok (m := b) (n := 1) (hp1.cf t ht1).nn (by decide) (by omega), ?_⟩
          rw [ix_dt]
          refine dget_dt (dKey_pw _) (keyOk_pw _) ec ?_
          rw [ix_f1]
          refine dset_t updD_same (dKey_pw _) (keyOk_pw _) (by show (p.map _).length < _; rw [List.length_map]; omega) ?_
          rw [updD_upd, Int.mul_one]
          exact step t.2 (hp1.nz t ht1) (hp1.cf t ht1) (hF1 t ht1).1 _
        · have e2 : D.tup [.int (t.2.num * -1), .int t.2.den] = fD (-t.2) := by
            rw [Int.mul_neg, Int.mul_one]
            rfl
          rw [ix_f0]
          walk_at "ev"
          refine ⟨mulok (m := b) (n := 1) (hp1.cf t ht1).nn (by decide) (by omega), ?_⟩
          rw [ix_dt]
          refine dget_dt (dKey_pw _) (keyOk_pw _) ec ?_
          rw [ix_f1]
          refine dset_t updD_same (dKey_pw _) (keyOk_pw _) (by show (p.map _).length < _; rw [List.length_map]; omega) ?_
          rw [updD_upd, e2]
          exact step (-t.2) (fun z => hp1.nz t ht1 (by rw [← Rat.neg_neg t.2, z]; rfl)) (hp1.cf t ht1).neg (hF1 t ht1).2 _
      · refine hN _ _ ⟨done ++ [t], rest, p, by simp [e1], rfl, hp, hFp, ?_, rfl, _, _, rfl⟩
        rw [List.length_append, List.length_singleton]
        omega
  · rintro σ g ⟨done, rest, p, e1, er, hp, hFp, hlp, rfl, o4, o5, rfl⟩
    refine ⟨trivial, ?_⟩
    have : rest = [] := by
      cases rest with
      | nil => rfl
      | cons t rest => cases er
    subst this
    rw [List.append_nil] at e1
    subst e1
    walk_at "ev"
    rw [frz_rt updD_same, delD_updD hd]
    exact q p hp hFp hlp
theorem x_lmult {b1 b2 : Nat} {p1 p2 : Pol} (nd1 : (p1.map fun t => t.1).Nodup) (nd2 : (p2.map fun t => t.1).Nodup) (hb1 : ∀ t ∈ p1, RB t.2 b1) (hb2 : ∀ t ∈ p2, RB t.2 b2)
    (hm : ∀ t ∈ p1, t.1.length ≤ 1000000) (hz : p1.length ≤ 1000 ∧ p2.length ≤ 1000) (hl : p1.length * p2.length * (b1 + b2 + 1) + b1 + b2 + 1 ≤ 8000) (q : Q (pdD (kept (acc (mulP p1 p2)))) h) :
    callD tab (k + 3) "_law_poly_mult" [pdD p1, pdD p2] h Q E := by
  refine call_of l__law_poly_mult rfl rfl ?_
  have sz : sizeLine = 16777216 := rfl
  have hml : p1.length * p2.length ≤ 8000 := by
    have : p1.length * p2.length ≤ p1.length * p2.length * (b1 + b2 + 1) := Nat.le_mul_of_pos_right _ (by omega)
    omega
  have hmb : ∀ t ∈ mulP p1 p2, RB t.2 (b1 + b2) := fun t ht => by
    unfold mulP at ht
    obtain ⟨a, ha, ht⟩ := List.mem_flatMap.mp ht
    obtain ⟨u, hu, rfl⟩ := List.mem_map.mp ht
    exact (hb1 a ha).mul (hb2 u hu)
  unfold l__law_poly_mult
  walk_at "ev"
  intro d hd
  rw [walk_pd]
  refine forD_by (fun r σ g => ∃ done rest : Pol, p1 = done ++ rest ∧ r = rest.map (fun t => pwD t.1) ∧ g = updD h d (.dT (pkK (acc (mulP done p2)))) ∧ ∃ o3 o4 o5 o6, σ = [some (pdD p1), some (pdD p2), some (.ref d), o3, o4, o5, o6, none, none, none]) ?_ ?_ _ _ _ ⟨[], p1, rfl, rfl, rfl, _, _, _, _, rfl⟩
  · rintro x r σ g ⟨done, rest, e1, er, rfl, o3, o4, o5, o6, rfl⟩ N hN
    refine ⟨trivial, ?_⟩
    cases rest with
    | nil => cases er
    | cons t rest =>
      rw [List.map_cons] at er
      cases er
      have ht : t ∈ p1 := by rw [e1]; simp
      have ec : valK (pkK p1) (pwK t.1) = some (fD t.2) := by rw [valK_pk, coef_of_mem nd1 ht]; rfl
      have em : mulP (done ++ [t]) p2 = mulP done p2 ++ p2.map fun u => (addPw t.1 u.1, t.2 * u.2) := by simp [mulP]
      have eall : mulP p1 p2 = mulP (done ++ [t]) p2 ++ mulP rest p2 := by rw [e1]; simp [mulP]
      walk_at "ev"
      rw [walk_pd]
      refine forD_by (fun r σ g => ∃ d2 r2 : Pol, p2 = d2 ++ r2 ∧ r = r2.map (fun t => pwD t.1) ∧ g = updD h d (.dT (pkK (acc (mulP done p2 ++ d2.map fun u => (addPw t.1 u.1, t.2 * u.2))))) ∧ ∃ o4 o5 o6, σ = [some (pdD p1), some (pdD p2), some (.ref d), some (pwD t.1), o4, o5, o6, none, none, none]) ?_ ?_ _ _ _ ⟨[], p2, rfl, rfl, by simp, _, _, _, rfl⟩
      · rintro x r σ g ⟨d2, r2, e2, er2, rfl, o4, o5, o6, rfl⟩ N2 hN2
        refine ⟨trivial, ?_⟩
        cases r2 with
        | nil => cases er2
        | cons u r2 =>
          rw [List.map_cons] at er2
          cases er2
          have hu : u ∈ p2 := by rw [e2]; simp
          have ec2 : valK (pkK p2) (pwK u.1) = some (fD u.2) := by rw [valK_pk, coef_of_mem nd2 hu]; rfl
          have et : pwD t.1 = .tup (t.1.map D.int) := rfl
          have eu : pwD u.1 = .tup (u.1.map D.int) := rfl
          walk_at "ev"
          rw [et, eu, zip_tt, zipL_ints, ← et, ← eu]
          have hmt := hm t ht
          refine lcD_maps (fun z : Int × Int => D.tup [.int z.1, .int z.2]) (fun z => some (.int (z.1 + z.2))) trivial _ _ (fun z hz K1 K0 hK => ?_) ?_ ?_
          · walk_at "ev"
            exact hK
          · rw [List.length_nil, List.length_zip]
            omega
          have e3 : [] ++ (t.1.zip u.1).filterMap (fun z : Int × Int => some (D.int (z.1 + z.2))) = (addPw t.1 u.1).map D.int := by
            show [] ++ List.filterMap (some ∘ fun z : Int × Int => D.int (z.1 + z.2)) _ = _
            rw [List.filterMap_eq_map, List.nil_append]
            unfold addPw
            rw [List.map_zipWith, List.zip, List.map_zipWith]
          rw [e3]
          walk_at "ev"
          have epw : D.tup ((addPw t.1 u.1).map D.int) = pwD (addPw t.1 u.1) := rfl
          rw [epw]
          unfold pdD
          rw [ix_dt]
          refine dget_dt (dKey_pw _) (keyOk_pw _) ec ?_
          walk_at "ev"
          rw [ix_dt]
          refine dget_dt (dKey_pw _) (keyOk_pw _) ec2 ?_
          refine x_ltimes rfl (hb1 t ht) (hb2 u hu) (by omega) ?_
          walk_at "ev"
          refine ⟨isDic_t updD_same, dget2_t updD_same (dKey_pw _) (keyOk_pw _) ?_⟩
          generalize hT : (mulP done p2 ++ d2.map fun u => (addPw t.1 u.1, t.2 * u.2)) = T at *
          have ev : ((valK (pkK (acc T)) (pwK (addPw t.1 u.1))).getD (.tup [.int 0, .int 1])) = fD (cf (acc T) (addPw t.1 u.1)) := by
            rw [valK_pk]
            unfold cf
            cases coef (acc T) (addPw t.1 u.1) <;> rfl
          rw [ev, cf_acc]
          have epre : mulP p1 p2 = T ++ ((u :: r2).map (fun u => (addPw t.1 u.1, t.2 * u.2)) ++ mulP rest p2) := by
            rw [eall, em, ← hT, e2, List.map_append]
            simp
          have hTl : T.length + 1 ≤ p1.length * p2.length := by
            rw [← mulP_len, epre]
            simp
          have hTb : ∀ v ∈ T, RB v.2 (b1 + b2) := fun v hv => hmb v (by rw [epre]; simp [hv])
          have hmul : (T.length + 1) * (b1 + b2 + 1) ≤ p1.length * p2.length * (b1 + b2 + 1) := Nat.mul_le_mul_right _ hTl
          rw [Nat.succ_mul] at hmul
          refine x_lplus rfl (RB.sumAt _ _ hTb) ((hb1 t ht).mul (hb2 u hu)) (by omega) ?_
          refine dset_t updD_same (dKey_pw _) (keyOk_pw _) ?_ ?_
          · show (List.map _ (acc T)).length < _
            rw [List.length_map]
            have := acc_len T
            omega
          · rw [updD_upd, putD_pk]
            refine hN2 _ _ ⟨d2 ++ [u], r2, by simp [e2], rfl, ?_, _, _, _, rfl⟩
            rw [List.map_append, ← List.append_assoc, hT]
            show _ = updD h d (.dT (pkK (acc (T ++ [(addPw t.1 u.1, t.2 * u.2)]))))
            rw [acc_snoc, cf_acc]
      · rintro σ g ⟨d2, r2, e2, er2, rfl, o4, o5, o6, rfl⟩
        refine ⟨trivial, ?_⟩
        have : r2 = [] := by
          cases r2 with
          | nil => rfl
          | cons u r2 => cases er2
        subst this
        rw [List.append_nil] at e2
        subst e2
        exact hN _ _ ⟨done ++ [t], rest, by simp [e1], rfl, by rw [em], _, _, _, _, rfl⟩
  · rintro σ g ⟨done, rest, e1, er, rfl, o3, o4, o5, o6, rfl⟩
    refine ⟨trivial, ?_⟩
    have : rest = [] := by
      cases rest with
      | nil => rfl
      | cons t rest => cases er
    subst this
    rw [List.append_nil] at e1
    subst e1
    walk_at "ev"
    intro a ha
    have ne : a ≠ d := fun z => by
      rw [z, updD_same] at ha
      cases ha
    rw [updD_ne ne] at ha
    rw [frz_rt (by rw [updD_ne (fun z => ne z.symm)]; exact updD_same), delD_two hd ne]
    show walkD (pdD (acc (mulP p1 p2))) _ _
    rw [walk_pd]
    have ndf := acc_nd (mulP p1 p2)
    have hPl := acc_len (mulP p1 p2)
    rw [mulP_len] at hPl
    generalize hP : acc (mulP p1 p2) = P at *
    refine forD_by (fun r σ g => ∃ done rest : Pol, P = done ++ rest ∧ r = rest.map (fun t => pwD t.1) ∧ g = updD h a (.dT (pkK (kept done))) ∧ ∃ o5, σ = [some (pdD p1), some (pdD p2), some (pdD P), o3, o4, o5, o6, some (.ref a), none, none]) ?_ ?_ _ _ _ ⟨[], P, rfl, rfl, rfl, _, rfl⟩
    · rintro x r σ g ⟨done, rest, e1, er, rfl, o5, rfl⟩ N hN
      refine ⟨trivial, ?_⟩
      cases rest with
      | nil => cases er
      | cons t rest =>
        rw [List.map_cons] at er
        cases er
        have htP : t ∈ P := by rw [e1]; simp
        have ec : valK (pkK P) (pwK t.1) = some (fD t.2) := by rw [valK_pk, coef_of_mem ndf htP]; rfl
        walk_at "ev"
        unfold pdD
        rw [ix_dt]
        refine dget_dt (dKey_pw _) (keyOk_pw _) ec ?_
        rw [ix_f0]
        walk_at "ev"
        have hkl : (kept done).length ≤ 8000 := by
          have h1 : (kept done).length ≤ done.length := List.length_filter_le ..
          rw [e1, List.length_append] at hPl
          omega
        split
        · rename_i hz0
          have h0 : t.2 = 0 := Rat.num_eq_zero.mp (by simpa using hz0)
          refine hN _ _ ⟨done ++ [t], rest, by simp [e1], rfl, ?_, _, rfl⟩
          rw [kept_snoc, if_pos h0, List.append_nil]
        · rename_i hz0
          have h0 : ¬ t.2 = 0 := fun z => hz0 (by rw [z]; rfl)
          rw [ix_dt]
          refine dget_dt (dKey_pw _) (keyOk_pw _) ec ?_
          refine dset_t updD_same (dKey_pw _) (keyOk_pw _) (by show (List.map _ (kept done)).length < _; rw [List.length_map]; omega) ?_
          rw [updD_upd, putD_pk]
          refine hN _ _ ⟨done ++ [t], rest, by simp [e1], rfl, ?_, _, rfl⟩
          rw [kept_snoc, if_neg h0, putP_new]
          intro hm
          rw [e1, List.map_append, List.map_cons, List.nodup_append] at ndf
          obtain ⟨u, hu, eu⟩ := List.mem_map.mp hm
          exact ndf.2.2 u.1 (List.mem_map_of_mem (List.mem_filter.mp hu).1) t.1 (List.mem_cons_self ..) eu
    · rintro σ g ⟨done, rest, e1, er, rfl, o5, rfl⟩
      refine ⟨trivial, ?_⟩
      have : rest = [] := by
        cases rest with
        | nil => rfl
        | cons t rest => cases er
      subst this
      rw [List.append_nil] at e1
      subst e1
      walk_at "ev"
      rw [frz_rt updD_same, delD_updD ha]
      exact q
theorem x_told {p : Pol} (nd : (p.map fun t => t.1).Nodup) (hz : p.length ≤ 1000000) (q : Q (ptD (srt p)) h) : callD tab (k + 1) "_law_poly_told" [pdD p] h Q E := by
  refine call_of c__law_poly_told rfl rfl ?_
  unfold c__law_poly_told
  walk_at "ev"
  rw [walk_pd]
  have sz : sizeLine = 16777216 := rfl
  refine lcD_pure (fun x => match dKey x with
    | some k => (valK (pkK p) k).map fun d => D.tup [x, d]
    | none => none) trivial _ _ (fun x hx K1 K0 hK => ?_) (by rw [List.length_map, List.length_nil]; omega) ?_
  · obtain ⟨t, ht, rfl⟩ := List.mem_map.mp hx
    have ec : valK (pkK p) (pwK t.1) = some (fD t.2) := by rw [valK_pk, coef_of_mem nd ht]; rfl
    simp only [dKey_pw, ec, Option.map_some] at hK
    walk_at "ev"
    unfold pdD
    rw [ix_dt]
    exact dget_dt (dKey_pw _) (keyOk_pw _) ec hK
  · rw [filterMap_all (e := prD) fun t ht => by
      have ec : valK (pkK p) (pwK t.1) = some (fD t.2) := by rw [valK_pk, coef_of_mem nd ht]; rfl
      simp only [dKey_pw, ec, Option.map_some]
      rfl]
    walk_at "ev"
    rw [bi_sorted (toPs_map toP_pr p)]
    refine ⟨sortOk_pr p hz, ?_⟩
    rw [sortDP_pr]
    walk_at "ev"
    exact q
theorem x_same {p d : Pol} (nd : (d.map fun t => t.1).Nodup) (hz : d.length ≤ 1000000) (e : srt d = p) (hs : ShowOk (.tuple (p.map prP))) (q : Q (.bl true) h) : callD tab (k + 2) "_law_same" [ptD p, pdD d] h Q E := by
  refine call_of l__law_same rfl rfl ?_
  unfold l__law_same
  walk_at "ev"
  unfold ptD
  rw [bi_repr (topP_t (toPs_map toP_pr _))]
  refine ⟨hs, ?_⟩
  refine x_told nd hz ?_
  unfold ptD
  rw [e, bi_repr (topP_t (toPs_map toP_pr _))]
  refine ⟨hs, ?_⟩
  rw [eq_s, decide_eq_true rfl]
  exact q
theorem x_point {a : Addr} {m : Nat} (hm : m ≤ 1000) (q : ∀ pt : List Rat, pt.length = m → (∀ f ∈ pt, RB f 3) → Q (ptsD pt) h) : callD tab (k + 3) "_law_point" [.box a, .int (m : Int)] h Q E := by
  refine call_of c__law_point rfl rfl ?_
  have sz : sizeLine = 16777216 := rfl
  unfold c__law_point
  walk_at "ev"
  refine ⟨by omega, by omega, ?_⟩
  rw [Int.toNat_natCast]
  refine lcD_by (fun r acc g => g = h ∧ acc.length + r.length = m ∧ ∃ pt : List Rat, acc = pt.map fD ∧ ∀ f ∈ pt, RB f 3) ?_ ?_ ?_ _ _ _ ⟨rfl, by rw [rngL_len]; simp, [], rfl, fun _ z => (nomatch z)⟩
  · rintro x r acc g ⟨_, e, _⟩
    rw [List.length_cons] at e
    omega
  · rintro x r acc g ⟨rfl, e, pt, rfl, hp⟩ N1 N0 hN1 hN0
    refine ⟨trivial, ?_⟩
    walk_at "ev"
    refine x_small fun f hf => hN1 _ _ ⟨rfl, ?_, pt ++ [f], by simp, fun y hy => ?_⟩
    · rw [List.length_cons] at e
      rw [List.length_append, List.length_singleton]
      omega
    · rcases List.mem_append.mp hy with z | z
      · exact hp y z
      · rw [List.mem_singleton.mp z]
        exact hf
  · rintro acc g ⟨rfl, e, pt, rfl, hp⟩
    rw [List.length_map, List.length_nil, Nat.add_zero] at e
    refine ⟨trivial, ?_⟩
    walk_at "ev"
    exact q pt e hp
end
end U.K03

/-! Pk03b: the law. -/
namespace U.K03
open PySem Deep
local macro_rules | `(tactic| walk_at "ev") => `(tactic| try simp only [es_nil, es_cons, es_asg, es_par, es_sub, es_exp, es_ret, es_retN, es_ite, es_for, es_brk, es_cnt, es_pas, tn_nm, tn_tp, tns_nil, tns_cons, tnsLen,
  ev_v0, ev_vs, ev_cst, ev_glb, ev_typ, ev_op, ev_neg, ev_cmp, ev_chn, ev_and, ev_or, ev_not, ev_ite, ev_tup, ev_lst, ev_ix, ev_sl, ev_call, ev_bi, ev_mt, ev_tm, isStr_s, ev_dnew, ev_dget, ev_mxd, ev_lrng, lrng_i, dnew_t, dnew_k, es_frz, fz_some, walk_dt, walk_dk, ev_frz, ev_lc, ea_nil, ea_cons, ean_nil, ean_cons, eor_nil, eor_cons, eo_non, eo_som, ec_non, ec_som, ei_ex, ei_rng, ei_enm, ei_zip, ei_rev,
  bD_bl, tn_fD, len_fD, kit_fD, walk_fD, ix_f0, ix_f1, op_add_i, op_add_s, op_add_t, op_add_l, op_sub_i, op_mul_i, op_mul_s, op_mul_l, op_fdiv_i, op_mod_i, op_pow_i, neg_i, cmp_eq, cmp_ne, eq_i, eq_s, eq_b, cmp_lt, cmp_le, cmp_gt, cmp_ge, ix_tup, ix_lst, ix_box, ix_scr, at_some, lc_nil, lc_cons, newL_f, newL_t, newL_b, len_str, len_tup, len_lst, len_scr, bi_abs, bi_max2, bi_min2, bi_int_i, bi_int_b, bi_tup_t, bi_tup_l, set_box, walk_tup, walk_lst, walk_str, rng_1, rng_2, sl_tup, sl_lst, sl_scr, wipe_nil, wipe_cons, bi_isi, kit_tup, kit_int, kit_str, kit_bl, kit_non, kit_lst, kb_tt, kb_ii, kb_ib, kb_ll, kb_it, kb_lt, kb_tl, kb_ss, w_plus_plus, w_plus_less, w_plus_times, w_plus_over, w_plus_number, w_plus_letter, w_less_plus, w_less_less, w_less_times, w_less_over, w_less_number, w_less_letter, w_times_plus, w_times_less, w_times_times, w_times_over, w_times_number, w_times_letter, w_over_plus, w_over_less, w_over_times, w_over_over, w_over_number, w_over_letter, w_number_plus, w_number_less, w_number_times, w_number_over, w_number_number, w_number_letter, w_letter_plus, w_letter_less, w_letter_times, w_letter_over, w_letter_number, w_letter_letter, in_plus, in_less, in_times, in_over, in_number, in_letter, at_0, at_1, at_2, cmp_inn_t, cmp_notin_t, flat_s, all_ss,
  startD, List.map_cons, List.map_nil, List.length_cons, List.length_nil, List.replicate, Nat.sub_self, Nat.reduceSub, List.cons_append, List.nil_append, List.append_nil, List.getElem?_cons_zero, List.getElem?_cons_succ, List.set_cons_zero, List.set_cons_succ, Nat.reduceAdd, Nat.zero_add, Nat.add_zero, decide_eq_true_eq, Bool.false_eq_true, if_false, if_true, reduceIte, Bool.not_true, Bool.not_false, Bool.not_eq_true', decide_eq_false_iff_not, ite_not, decide_true, decide_false, eq_self_iff_true, List.length_map, true_and, and_true, reduceCtorEq, Bool.true_eq_false, sizeLine_eq, Nat.reduceLeDiff])
set_option hygiene false in
local macro_rules | `(tactic| walk_at "evt") => `(tactic| simp only [es_nil, es_cons, es_asg, es_par, es_sub, es_exp, es_ret, es_retN, es_ite, es_for, es_brk, es_cnt, es_pas, tn_nm, tn_tp, tns_nil, tns_cons, tnsLen,
  ev_v0, ev_vs, ev_cst, ev_glb, ev_typ, ev_op, ev_neg, ev_cmp, ev_chn, ev_and, ev_or, ev_not, ev_ite, ev_tup, ev_lst, ev_ix, ev_sl, ev_call, ev_bi, ev_mt, ev_tm, isStr_s, ev_dnew, ev_dget, ev_mxd, ev_lrng, lrng_i, dnew_t, dnew_k, es_frz, fz_some, walk_dt, walk_dk, ev_frz, ev_lc, ea_nil, ea_cons, ean_nil, ean_cons, eor_nil, eor_cons, eo_non, eo_som, ec_non, ec_som, ei_ex, ei_rng, ei_enm, ei_zip, ei_rev,
  bD_bl, tn_fD, len_fD, kit_fD, walk_fD, ix_f0, ix_f1, op_add_i, op_add_s, op_add_t, op_add_l, op_sub_i, op_mul_i, op_mul_s, op_mul_l, op_fdiv_i, op_mod_i, op_pow_i, neg_i, cmp_eq, cmp_ne, eq_i, eq_s, eq_b, cmp_lt, cmp_le, cmp_gt, cmp_ge, ix_tup, ix_lst, ix_box, ix_scr, at_some, lc_nil, lc_cons, newL_f, newL_t, newL_b, len_str, len_tup, len_lst, len_scr, bi_abs, bi_max2, bi_min2, bi_int_i, bi_int_b, bi_tup_t, bi_tup_l, set_box, walk_tup, walk_lst, walk_str, rng_1, rng_2, sl_tup, sl_lst, sl_scr, wipe_nil, wipe_cons, bi_isi, kit_tup, kit_int, kit_str, kit_bl, kit_non, kit_lst, kb_tt, kb_ii, kb_ib, kb_ll, kb_it, kb_lt, kb_tl, kb_ss, w_plus_plus, w_plus_less, w_plus_times, w_plus_over, w_plus_number, w_plus_letter, w_less_plus, w_less_less, w_less_times, w_less_over, w_less_number, w_less_letter, w_times_plus, w_times_less, w_times_times, w_times_over, w_times_number, w_times_letter, w_over_plus, w_over_less, w_over_times, w_over_over, w_over_number, w_over_letter, w_number_plus, w_number_less, w_number_times, w_number_over, w_number_number, w_number_letter, w_letter_plus, w_letter_less, w_letter_times, w_letter_over, w_letter_number, w_letter_letter, in_plus, in_less, in_times, in_over, in_number, in_letter, at_0, at_1, at_2, cmp_inn_t, cmp_notin_t, flat_s, all_ss,
  startD, List.map_cons, List.map_nil, List.length_cons, List.length_nil, List.replicate, Nat.sub_self, Nat.reduceSub, List.cons_append, List.nil_append, List.append_nil, List.getElem?_cons_zero, List.getElem?_cons_succ, List.set_cons_zero, List.set_cons_succ, Nat.reduceAdd, Nat.zero_add, Nat.add_zero, decide_eq_true_eq, Bool.false_eq_true, if_false, if_true, reduceIte, Bool.not_true, Bool.not_false, Bool.not_eq_true', decide_eq_false_iff_not, ite_not, decide_true, decide_false, eq_self_iff_true, List.length_map, true_and, and_true, reduceCtorEq, Bool.true_eq_false, sizeLine_eq, Nat.reduceLeDiff] at tl)
theorem pk1 : True := trivial
theorem pf_of {m b : Nat} {top : Int} {p : Pol} (hp : PolOk m top b p) (ht : top ≤ 4) (hF : ∀ t ∈ p, FB t.2 12 33554432) : PF m 3 12 33554432 p :=
  ⟨hp.nd, hp.ln, fun t ht' n hn => by have := hp.pw t ht' n hn; omega, hF⟩
theorem val_fb {m e N K : Nat} {p : Pol} {pt : List Rat} (hp : PF m e N K p) (hN : 0 < N) (hpt : ∀ f ∈ pt, FB f 2520 2517480) (hl : pt.length = m) : FB (valQ pt p) (N * (2520 ^ e) ^ m) (p.length * (K * (2517480 ^ e) ^ m)) :=
  FB.val hN (by decide) (by decide) hpt hl hp.ln hp.pw hp.cf
theorem pow_le2 {x m e : Nat} (hx : 0 < x) (hm : m ≤ 3) (he : e ≤ 6) : (x ^ e) ^ m ≤ (x ^ 6) ^ 3 :=
  Nat.le_trans (Nat.pow_le_pow_left (Nat.pow_le_pow_right hx he) m) (Nat.pow_le_pow_right (Nat.pow_pos hx) hm)
theorem big1 : 144 * (2520 ^ 6) ^ 3 < 2 ^ 500 := by decide +kernel
theorem big2 : 60 * (72057594037927936 * (2517480 ^ 6) ^ 3) < 2 ^ 500 := by decide +kernel
theorem val_rb {m e N K : Nat} {p : Pol} {pt : List Rat} (hp : PF m e N K p) (hN : 0 < N ∧ N ≤ 144) (hK : K ≤ 72057594037927936) (hz : p.length ≤ 60) (hm : m ≤ 3) (he : e ≤ 6) (hpt : ∀ f ∈ pt, FB f 2520 2517480) (hl : pt.length = m) : ∀ done rest, p = done ++ rest → RB (valQ pt done) 500 := by
  intro done rest e1
  have h1 := val_fb (hp.pre e1) hN.1 hpt hl
  have hd : done.length ≤ 60 := by
    rw [e1, List.length_append] at hz
    omega
  refine FB.rb (Nat.mul_pos hN.1 (Nat.pow_pos (Nat.pow_pos (by decide)))) ?_ ?_ h1
  · exact Nat.lt_of_le_of_lt (Nat.mul_le_mul hN.2 (pow_le2 (by decide) hm he)) big1
  · exact Nat.lt_of_le_of_lt (Nat.mul_le_mul hd (Nat.mul_le_mul hK (pow_le2 (by decide) hm he))) big2
theorem rb64 {N K : Nat} {q : Rat} (hN : 0 < N ∧ N ≤ 144) (hK : K ≤ 72057594037927936) (h : FB q N K) : RB q 64 := FB.rb hN.1 (by omega) (by omega) h
theorem showPF {m e N K : Nat} {p : Pol} (hp : PF m e N K p) (hm : m ≤ 3) (he : e ≤ 6) (hN : 0 < N ∧ N ≤ 144) (hK : K ≤ 72057594037927936) (hz : p.length ≤ 60) : ShowOk (.tuple (p.map prP)) :=
  show_pol (fun t ht => ⟨by rw [hp.ln t ht]; exact hm, fun n hn => by have := hp.pw t ht n hn; omega⟩) (fun t ht => rb64 hN hK (hp.cf t ht)) hz
theorem ne_of {m e N K : Nat} {p : Pol} (hm : 1 ≤ m) (hp : PF m e N K p) : ∀ t ∈ p, t.1 ≠ [] := fun t ht z => by
  have := hp.ln t ht
  rw [z, List.length_nil] at this
  omega
theorem pop1_r {p : Addr} {xs : List D} {i : Int} {h : DH} {Q : DQ} (e : h p = some (.lst xs)) (h0 : 0 ≤ i) (h1 : i < xs.length) (hb : i < 2 ^ 63) (q : ∀ y, xs[i.toNat]? = some y → Q y (updD h p (.lst (xs.eraseIdx i.toNat)))) : mtD .pop1 (.ref p) [.int i] h Q := by
  have e1 : seqIndex? i xs.length = some i.toNat := by
    unfold seqIndex?
    simp only [if_neg (show ¬ i < 0 by omega)]
    rw [if_pos (by simp; omega)]
  have e2 : xs[i.toNat]? = some xs[i.toNat] := List.getElem?_eq_getElem (by omega)
  simp only [mtD, e, e1, e2]
  exact ⟨⟨by omega, hb⟩, q _ e2⟩
theorem perm_erase {α : Type} : ∀ {xs : List α} {k : Nat} {y : α}, xs[k]? = some y → (y :: xs.eraseIdx k).Perm xs
  | [], k, y, h => by simp at h
  | x :: xs, 0, y, h => by
    simp at h
    subst h
    exact List.Perm.refl _
  | x :: xs, k + 1, y, h => by
    have ih := perm_erase (xs := xs) (k := k) (y := y) (by simpa using h)
    rw [List.eraseIdx_cons_succ]
    exact (List.Perm.swap x y _).trans (ih.cons x)
theorem part_add (n a d : Int) (hd : d ≠ 0) : Rat.divInt a d + Rat.divInt (n - a) d = Rat.divInt n d := by
  rw [Rat.divInt_add_divInt _ _ hd hd, ← Int.add_mul, Rat.divInt_mul_right hd]
  congr 1
  omega
/-- pairs that add up to a polynomial, of the kind that poly is handed -/
structure Adds (m : Nat) (p ts : Pol) : Prop where
  sm : ∀ ps, sumAt ts ps = sumAt p ps
  ln : ∀ t ∈ ts, t.1.length = m
  rb : ∀ t ∈ ts, RB t.2 24
section
variable {k : Nat} {h : DH} {Q : DQ} {E : XQ}
theorem x_right {m : Nat} {top : Int} {p1 p2 : Pol} {pts : List (List Rat)} (hm : 1 ≤ m ∧ m ≤ 3) (ht : top ≤ 4) (h1 : PolOk m top 21 p1) (h2 : PolOk m top 21 p2) (f1 : ∀ t ∈ p1, FB t.2 12 33554432) (f2 : ∀ t ∈ p2, FB t.2 12 33554432)
    (hz : p1.length * p2.length ≤ 50 ∧ p1.length ≤ 10 ∧ p2.length ≤ 10) (hpt : ∀ pt ∈ pts, pt.length = m ∧ ∀ f ∈ pt, RB f 12 ∧ FB f 2520 2517480) (q : Q (.bl true) h) : callD tab (k + 6) "_law_right" [pdD p1, pdD p2, .lst (pts.map ptsD)] h Q E := by
  refine call_of l__law_right rfl rfl ?_
  have q1 := pf_of h1 ht f1
  have q2 := pf_of h2 ht f2
  have s1 := q1.srt
  have s2 := q2.srt
  have l1 : (srt p1).length = p1.length := (srt_perm p1).length_eq
  have l2 : (srt p2).length = p2.length := (srt_perm p2).length_eq
  have rs1 : ∀ t ∈ srt p1, RB t.2 21 := fun t ht => h1.cf t ((srt_perm p1).mem_iff.mp ht)
  have rs2 : ∀ t ∈ srt p2, RB t.2 21 := fun t ht => h2.cf t ((srt_perm p2).mem_iff.mp ht)
  have am : ∀ t ∈ srt p1 ++ srt p2, t.1.length = m := fun t ht => by
    rcases List.mem_append.mp ht with z | z
    · exact s1.ln t z
    · exact s2.ln t z
  have qb : PF m 3 12 (((srt p1 ++ srt p2).length) * 33554432) (polyN (srt p1 ++ srt p2)) := PF.poly (by decide) am
    (fun t ht => by
      rcases List.mem_append.mp ht with z | z
      · exact s1.pw t z
      · exact s2.pw t z)
    (fun t ht => by
      rcases List.mem_append.mp ht with z | z
      · exact s1.cf t z
      · exact s2.cf t z)
  have ngm : ∀ {t : List Int × Rat}, t ∈ negP (srt p2) → ∃ u ∈ srt p2, t = (u.1, 0 - u.2) := fun ht => by
    obtain ⟨u, hu, rfl⟩ := List.mem_map.mp ht
    exact ⟨u, hu, rfl⟩
  have qt : PF m 3 12 (((srt p1 ++ negP (srt p2)).length) * 33554432) (polyN (srt p1 ++ negP (srt p2))) := PF.poly (by decide)
    (fun t ht => by
      rcases List.mem_append.mp ht with z | z
      · exact s1.ln t z
      · obtain ⟨u, hu, rfl⟩ := ngm z
        exact s2.ln u hu)
    (fun t ht => by
      rcases List.mem_append.mp ht with z | z
      · exact s1.pw t z
      · obtain ⟨u, hu, rfl⟩ := ngm z
        exact s2.pw u hu)
    (fun t ht => by
      rcases List.mem_append.mp ht with z | z
      · exact s1.cf t z
      · obtain ⟨u, hu, rfl⟩ := ngm z
        show FB (0 - u.2) _ _
        rw [Rat.sub_eq_add_neg, Rat.zero_add]
        exact (s2.cf u hu).neg)
  have ln1 : (srt p1 ++ srt p2).length = p1.length + p2.length := by rw [List.length_append, l1, l2]
  have ln2 : (srt p1 ++ negP (srt p2)).length = p1.length + p2.length := by
    rw [List.length_append, l1]
    unfold negP
    rw [List.length_map, l2]
  obtain ⟨mo1, mo2, mo3⟩ := mulP_ok s1 s2
  have qp : PF m 6 144 ((mulP (srt p1) (srt p2)).length * (33554432 * 33554432)) (polyN (mulP (srt p1) (srt p2))) := PF.poly (by decide) mo1 mo2 mo3
  have ln3 : (mulP (srt p1) (srt p2)).length = p1.length * p2.length := by rw [mulP_len, l1, l2]
  have lb := polyN_len (srt p1 ++ srt p2)
  have lt := polyN_len (srt p1 ++ negP (srt p2))
  have lp := polyN_len (mulP (srt p1) (srt p2))
  have tb := told_plus (p1 := p1) (p2 := p2) h1.nd
  have tt := told_less (p1 := p1) (p2 := p2) h1.nd
  have tp := told_times p1 p2
  rw [ln1] at qb lb
  rw [ln2] at qt lt
  rw [ln3] at qp lp
  have kb : (p1.length + p2.length) * 33554432 ≤ 72057594037927936 := Nat.le_trans (Nat.mul_le_mul_right _ (show _ ≤ 20 by omega)) (by decide)
  have kp : p1.length * p2.length * (33554432 * 33554432) ≤ 72057594037927936 := Nat.le_trans (Nat.mul_le_mul_right _ hz.1) (by decide)
  have nb : 0 < 12 ∧ 12 ≤ 144 := by decide
  have np : 0 < 144 ∧ 144 ≤ 144 := by decide
  have prod43 : p1.length * p2.length * (21 + 21 + 1) + 21 + 21 + 1 ≤ 8000 := by
    have := Nat.mul_le_mul_right 43 hz.1
    omega
  have hcA : ∀ s : Int, s = 1 ∨ s = -1 → ∀ done rest, p2 = done ++ rest → ∀ ps, RB (cf (addK s p1 done) ps) 64 := fun s hs done rest e1 ps => by
    have h3 : done.length ≤ 10 := by
      have := hz.2.2
      rw [e1, List.length_append] at this
      omega
    have h4 : 33554432 + done.length * 33554432 ≤ 72057594037927936 := by omega
    exact rb64 nb h4 (FB.addK (by decide) hs f1 (fun t ht => f2 t (by rw [e1]; exact List.mem_append_left _ ht)) ps)
  have hlA : ∀ s : Int, ∀ done rest, p2 = done ++ rest → (addK s p1 done).length ≤ 1000 := fun s done rest e1 => by
    have h3 : done.length ≤ 10 := by
      have := hz.2.2
      rw [e1, List.length_append] at this
      omega
    have := addK_len s done p1
    omega
  generalize hB : polyN (srt p1 ++ srt p2) = B at *
  generalize hT : polyN (srt p1 ++ negP (srt p2)) = T at *
  generalize hP : polyN (mulP (srt p1) (srt p2)) = P at *
  unfold l__law_right
  walk_at "ev"
  refine x_told h1.nd (by omega) ?_
  walk_at "ev"
  refine x_told h2.nd (by omega) ?_
  walk_at "ev"
  refine x_poly_plus rfl (b := 21) (fun t ht z => ?_) (fun t ht => ?_) (by rw [ln1]; omega) ?_
  · have := am t ht
    rw [z, List.length_nil] at this
    omega
  · rcases List.mem_append.mp ht with z | z
    · exact rs1 t z
    · exact rs2 t z
  rw [hB]
  walk_at "ev"
  refine x_poly_less rfl rfl (b := 21) (fun t ht z => ?_) (fun t ht => ?_) (by rw [ln1]; omega) ?_
  · have := am t ht
    rw [z, List.length_nil] at this
    omega
  · rcases List.mem_append.mp ht with z | z
    · exact rs1 t z
    · exact rs2 t z
  rw [hT]
  walk_at "ev"
  refine x_poly_times rfl (b1 := 21) (b2 := 21) (fun t ht z => ?_) rs1 rs2 (fun t ht => by rw [s1.ln t ht]; omega) (by rw [l1, l2]; omega) (by rw [l1, l2]; omega) ?_
  · have := mo1 t ht
    rw [z, List.length_nil] at this
    omega
  rw [hP]
  walk_at "ev"
  refine x_poly_add rfl rfl (b := 21) (c := 64) (.inl rfl) h1 h2.nd h2.cf ht hm (by omega) (by omega) (by omega) (hcA 1 (.inl rfl)) (addK_nd 1 p2 p1 h1.nd) (hlA 1) ?_
  walk_at "ev"
  refine x_same (kept_nd (addK_nd 1 p2 p1 h1.nd)) ?_ tb (showPF qb hm.2 (by decide) nb kb (by omega)) ?_
  · have h3 : (kept (addK 1 p1 p2)).length ≤ (addK 1 p1 p2).length := List.length_filter_le ..
    have := hlA 1 p2 [] (by simp)
    omega
  walk_at "ev"
  refine x_poly_add rfl rfl (b := 21) (c := 64) (.inr rfl) h1 h2.nd h2.cf ht hm (by omega) (by omega) (by omega) (hcA (-1) (.inr rfl)) (addK_nd (-1) p2 p1 h1.nd) (hlA (-1)) ?_
  walk_at "ev"
  refine x_same (kept_nd (addK_nd (-1) p2 p1 h1.nd)) ?_ tt (showPF qt hm.2 (by decide) nb kb (by omega)) ?_
  · have h3 : (kept (addK (-1) p1 p2)).length ≤ (addK (-1) p1 p2).length := List.length_filter_le ..
    have := hlA (-1) p2 [] (by simp)
    omega
  walk_at "ev"
  refine x_lmult h1.nd h2.nd h1.cf h2.cf (fun t ht => by rw [h1.ln t ht]; omega) (by omega) prod43 ?_
  walk_at "ev"
  refine x_same (kept_nd (acc_nd _)) ?_ tp (showPF qp hm.2 (by decide) np kp (by omega)) ?_
  · have h3 : (kept (acc (mulP p1 p2))).length ≤ (acc (mulP p1 p2)).length := List.length_filter_le ..
    have h4 := acc_len (mulP p1 p2)
    rw [mulP_len] at h4
    omega
  walk_at "ev"
  refine forD_by (fun r σ g => g = h ∧ (∃ rest : List (List Rat), r = rest.map ptsD ∧ ∀ pt ∈ rest, pt ∈ pts) ∧ ∃ o8 o9 o10, σ = [some (pdD p1), some (pdD p2), some (.lst (pts.map ptsD)), some (ptD (srt p1)), some (ptD (srt p2)), some (ptD B), some (ptD T), some (ptD P), o8, o9, o10]) ?_ ?_ _ _ _ ⟨rfl, ⟨pts, rfl, fun _ z => z⟩, _, _, _, rfl⟩
  · rintro x r σ g ⟨rfl, ⟨rest, er, hr⟩, o8, o9, o10, rfl⟩ N hN
    refine ⟨trivial, ?_⟩
    cases rest with
    | nil => cases er
    | cons pt rest =>
      rw [List.map_cons] at er
      cases er
      obtain ⟨pl, pf⟩ := hpt pt (hr pt (List.mem_cons_self ..))
      have rbp : ∀ f ∈ pt, RB f 12 := fun f hf => (pf f hf).1
      have fbp : ∀ f ∈ pt, FB f 2520 2517480 := fun f hf => (pf f hf).2
      have v1 := val_rb q1 nb (by decide) (by omega) hm.2 (by decide) fbp pl
      have v2 := val_rb q2 nb (by decide) (by omega) hm.2 (by decide) fbp pl
      have vs1 := val_rb s1 nb (by decide) (by omega) hm.2 (by decide) fbp pl
      have vb := val_rb qb nb kb (by omega) hm.2 (by decide) fbp pl
      have vt := val_rb qt nb kb (by omega) hm.2 (by decide) fbp pl
      have vp := val_rb qp np kp (by omega) hm.2 (by decide) fbp pl
      have w1 := v1 p1 [] (by simp)
      have w2 := v2 p2 [] (by simp)
      have eb : valQ pt B = valQ pt p1 + valQ pt p2 := by
        rw [← hB, valQ_poly, valQ_append, valQ_perm pt (srt_perm p1), valQ_perm pt (srt_perm p2)]
      have et : valQ pt T = valQ pt p1 + -valQ pt p2 := by
        rw [← hT, valQ_poly, valQ_append, valQ_neg, valQ_perm pt (srt_perm p1), valQ_perm pt (srt_perm p2)]
      have ep : valQ pt P = valQ pt p1 * valQ pt p2 := by
        rw [← hP, valQ_poly, valQ_mul pt (srt p2) (m := m) (fun u hu => ⟨s2.ln u hu, fun n hn => (s2.pw u hu n hn).1⟩) (srt p1) (fun u hu => ⟨s1.ln u hu, fun n hn => (s1.pw u hu n hn).1⟩), valQ_perm pt (srt_perm p1), valQ_perm pt (srt_perm p2)]
      have es1 : valQ pt (srt p1) = valQ pt p1 := valQ_perm pt (srt_perm p1)
      walk_at "ev"
      refine x_at (b := 21) (bp := 12) (e := 3) (c := 500) (by omega) h1.nd h1.cf rbp q1.pw (by omega) (by decide) (by decide) v1 (by decide) ?_
      walk_at "ev"
      refine x_at (b := 21) (bp := 12) (e := 3) (c := 500) (by omega) h2.nd h2.cf rbp q2.pw (by omega) (by decide) (by decide) v2 (by decide) ?_
      walk_at "ev"
      refine x_value "ONE" "NOUGHT" rfl rfl (b := 21) (bp := 12) (e := 3) (c := 500) (by omega) rs1 rbp s1.pw (by omega) (by decide) (by decide) vs1 (by decide) ?_
      rw [es1, bi_repr (show topP _ (fD _) = some (fP _) from toP_fD _)]
      refine ⟨show_f (w1.mono (by decide)), ?_⟩
      rw [bi_repr (show topP _ (fD _) = some (fP _) from toP_fD _)]
      refine ⟨show_f (w1.mono (by decide)), ?_⟩
      walk_at "ev"
      refine x_value "ONE" "NOUGHT" rfl rfl (b := 64) (bp := 12) (e := 6) (c := 500) (by omega) (fun t ht => rb64 np kp (qp.cf t ht)) rbp qp.pw (by omega) (by decide) (by decide) vp (by decide) ?_
      rw [ep, bi_repr (show topP _ (fD _) = some (fP _) from toP_fD _)]
      refine ⟨show_f (w1.mul w2), ?_⟩
      refine x_ltimes rfl w1 w2 (by decide) ?_
      rw [bi_repr (show topP _ (fD _) = some (fP _) from toP_fD _)]
      refine ⟨show_f (w1.mul w2), ?_⟩
      walk_at "ev"
      refine x_value "ONE" "NOUGHT" rfl rfl (b := 64) (bp := 12) (e := 3) (c := 500) (by omega) (fun t ht => rb64 nb kb (qb.cf t ht)) rbp qb.pw (by omega) (by decide) (by decide) vb (by decide) ?_
      refine x_lplus rfl w1 w2 (by decide) ?_
      rw [eb, eq_fD]
      refine ⟨shaped_f _, shaped_f _, ?_⟩
      walk_at "ev"
      refine x_value "ONE" "NOUGHT" rfl rfl (b := 64) (bp := 12) (e := 3) (c := 500) (by omega) (fun t ht => rb64 nb kb (qt.cf t ht)) rbp qt.pw (by omega) (by decide) (by decide) vt (by decide) ?_
      walk_at "ev"
      rw [fD_neg]
      refine x_lplus rfl w1 w2.neg (by decide) ?_
      rw [et, eq_fD]
      refine ⟨shaped_f _, shaped_f _, ?_⟩
      walk_at "ev"
      exact hN _ _ ⟨rfl, ⟨rest, rfl, fun y hy => hr y (List.mem_cons_of_mem _ hy)⟩, _, _, _, rfl⟩
  · rintro σ g ⟨rfl, _, o8, o9, o10, rfl⟩
    refine ⟨trivial, ?_⟩
    walk_at "ev"
    exact q
end
end U.K03

/-! Pk03c: the law. -/
namespace U.K03
open PySem Deep
local macro_rules | `(tactic| walk_at "ev") => `(tactic| try simp only [es_nil, es_cons, es_asg, es_par, es_sub, es_exp, es_ret, es_retN, es_ite, es_for, es_brk, es_cnt, es_pas, tn_nm, tn_tp, tns_nil, tns_cons, tnsLen,
  ev_v0, ev_vs, ev_cst, ev_glb, ev_typ, ev_op, ev_neg, ev_cmp, ev_chn, ev_and, ev_or, ev_not, ev_ite, ev_tup, ev_lst, ev_ix, ev_sl, ev_call, ev_bi, ev_mt, ev_tm, isStr_s, ev_dnew, ev_dget, ev_mxd, ev_lrng, lrng_i, dnew_t, dnew_k, es_frz, fz_some, walk_dt, walk_dk, ev_frz, ev_lc, ea_nil, ea_cons, ean_nil, ean_cons, eor_nil, eor_cons, eo_non, eo_som, ec_non, ec_som, ei_ex, ei_rng, ei_enm, ei_zip, ei_rev,
  bD_bl, tn_fD, len_fD, kit_fD, walk_fD, ix_f0, ix_f1, op_add_i, op_add_s, op_add_t, op_add_l, op_sub_i, op_mul_i, op_mul_s, op_mul_l, op_fdiv_i, op_mod_i, op_pow_i, neg_i, cmp_eq, cmp_ne, eq_i, eq_s, eq_b, cmp_lt, cmp_le, cmp_gt, cmp_ge, ix_tup, ix_lst, ix_box, ix_scr, at_some, lc_nil, lc_cons, newL_f, newL_t, newL_b, len_str, len_tup, len_lst, len_scr, bi_abs, bi_max2, bi_min2, bi_int_i, bi_int_b, bi_tup_t, bi_tup_l, set_box, walk_tup, walk_lst, walk_str, rng_1, rng_2, sl_tup, sl_lst, sl_scr, wipe_nil, wipe_cons, bi_isi, kit_tup, kit_int, kit_str, kit_bl, kit_non, kit_lst, kb_tt, kb_ii, kb_ib, kb_ll, kb_it, kb_lt, kb_tl, kb_ss, w_plus_plus, w_plus_less, w_plus_times, w_plus_over, w_plus_number, w_plus_letter, w_less_plus, w_less_less, w_less_times, w_less_over, w_less_number, w_less_letter, w_times_plus, w_times_less, w_times_times, w_times_over, w_times_number, w_times_letter, w_over_plus, w_over_less, w_over_times, w_over_over, w_over_number, w_over_letter, w_number_plus, w_number_less, w_number_times, w_number_over, w_number_number, w_number_letter, w_letter_plus, w_letter_less, w_letter_times, w_letter_over, w_letter_number, w_letter_letter, in_plus, in_less, in_times, in_over, in_number, in_letter, at_0, at_1, at_2, cmp_inn_t, cmp_notin_t, flat_s, all_ss,
  startD, List.map_cons, List.map_nil, List.length_cons, List.length_nil, List.replicate, Nat.sub_self, Nat.reduceSub, List.cons_append, List.nil_append, List.append_nil, List.getElem?_cons_zero, List.getElem?_cons_succ, List.set_cons_zero, List.set_cons_succ, Nat.reduceAdd, Nat.zero_add, Nat.add_zero, decide_eq_true_eq, Bool.false_eq_true, if_false, if_true, reduceIte, Bool.not_true, Bool.not_false, Bool.not_eq_true', decide_eq_false_iff_not, ite_not, decide_true, decide_false, eq_self_iff_true, List.length_map, true_and, and_true, reduceCtorEq, Bool.true_eq_false, sizeLine_eq, Nat.reduceLeDiff])
set_option hygiene false in
local macro_rules | `(tactic| walk_at "evt") => `(tactic| simp only [es_nil, es_cons, es_asg, es_par, es_sub, es_exp, es_ret, es_retN, es_ite, es_for, es_brk, es_cnt, es_pas, tn_nm, tn_tp, tns_nil, tns_cons, tnsLen,
  ev_v0, ev_vs, ev_cst, ev_glb, ev_typ, ev_op, ev_neg, ev_cmp, ev_chn, ev_and, ev_or, ev_not, ev_ite, ev_tup, ev_lst, ev_ix, ev_sl, ev_call, ev_bi, ev_mt, ev_tm, isStr_s, ev_dnew, ev_dget, ev_mxd, ev_lrng, lrng_i, dnew_t, dnew_k, es_frz, fz_some, walk_dt, walk_dk, ev_frz, ev_lc, ea_nil, ea_cons, ean_nil, ean_cons, eor_nil, eor_cons, eo_non, eo_som, ec_non, ec_som, ei_ex, ei_rng, ei_enm, ei_zip, ei_rev,
  bD_bl, tn_fD, len_fD, kit_fD, walk_fD, ix_f0, ix_f1, op_add_i, op_add_s, op_add_t, op_add_l, op_sub_i, op_mul_i, op_mul_s, op_mul_l, op_fdiv_i, op_mod_i, op_pow_i, neg_i, cmp_eq, cmp_ne, eq_i, eq_s, eq_b, cmp_lt, cmp_le, cmp_gt, cmp_ge, ix_tup, ix_lst, ix_box, ix_scr, at_some, lc_nil, lc_cons, newL_f, newL_t, newL_b, len_str, len_tup, len_lst, len_scr, bi_abs, bi_max2, bi_min2, bi_int_i, bi_int_b, bi_tup_t, bi_tup_l, set_box, walk_tup, walk_lst, walk_str, rng_1, rng_2, sl_tup, sl_lst, sl_scr, wipe_nil, wipe_cons, bi_isi, kit_tup, kit_int, kit_str, kit_bl, kit_non, kit_lst, kb_tt, kb_ii, kb_ib, kb_ll, kb_it, kb_lt, kb_tl, kb_ss, w_plus_plus, w_plus_less, w_plus_times, w_plus_over, w_plus_number, w_plus_letter, w_less_plus, w_less_less, w_less_times, w_less_over, w_less_number, w_less_letter, w_times_plus, w_times_less, w_times_times, w_times_over, w_times_number, w_times_letter, w_over_plus, w_over_less, w_over_times, w_over_over, w_over_number, w_over_letter, w_number_plus, w_number_less, w_number_times, w_number_over, w_number_number, w_number_letter, w_letter_plus, w_letter_less, w_letter_times, w_letter_over, w_letter_number, w_letter_letter, in_plus, in_less, in_times, in_over, in_number, in_letter, at_0, at_1, at_2, cmp_inn_t, cmp_notin_t, flat_s, all_ss,
  startD, List.map_cons, List.map_nil, List.length_cons, List.length_nil, List.replicate, Nat.sub_self, Nat.reduceSub, List.cons_append, List.nil_append, List.append_nil, List.getElem?_cons_zero, List.getElem?_cons_succ, List.set_cons_zero, List.set_cons_succ, Nat.reduceAdd, Nat.zero_add, Nat.add_zero, decide_eq_true_eq, Bool.false_eq_true, if_false, if_true, reduceIte, Bool.not_true, Bool.not_false, Bool.not_eq_true', decide_eq_false_iff_not, ite_not, decide_true, decide_false, eq_self_iff_true, List.length_map, true_and, and_true, reduceCtorEq, Bool.true_eq_false, sizeLine_eq, Nat.reduceLeDiff] at tl)
theorem pk2 : True := trivial
theorem Adds.nil {m : Nat} : Adds m [] [] := ⟨fun _ => rfl, fun _ z => (nomatch z), fun _ z => (nomatch z)⟩
theorem Adds.two {m : Nat} {p ts : Pol} (h : Adds m p ts) {t : List Int × Rat} {a b : Rat} (hl : t.1.length = m) (hs : a + b = t.2) (ha : RB a 24) (hb : RB b 24) : Adds m (p ++ [t]) (ts ++ [(t.1, a), (t.1, b)]) := by
  refine ⟨fun ps => ?_, fun u hu => ?_, fun u hu => ?_⟩
  · rw [sumAt_append, sumAt_append, h.sm, sumAt_cons, sumAt_cons, sumAt_cons]
    show _ + ((if t.1 = ps then a else 0) + ((if t.1 = ps then b else 0) + 0)) = _ + (_ + 0)
    split
    · rw [Rat.add_zero, Rat.add_zero, hs]
    · rw [Rat.add_zero, Rat.add_zero, Rat.add_zero]
  · rcases List.mem_append.mp hu with z | z
    · exact h.ln u z
    · rcases List.mem_cons.mp z with rfl | z
      · exact hl
      · rw [List.mem_singleton.mp z]
        exact hl
  · rcases List.mem_append.mp hu with z | z
    · exact h.rb u z
    · rcases List.mem_cons.mp z with rfl | z
      · exact ha
      · rw [List.mem_singleton.mp z]
        exact hb
theorem Adds.nought {m : Nat} {p ts : Pol} (h : Adds m p ts) {ex : List Int} {f : Rat} (hl : ex.length = m) (hf : RB f 24) : Adds m p (ts ++ [(ex, f), (ex, -f), (ex, 0)]) := by
  refine ⟨fun ps => ?_, fun u hu => ?_, fun u hu => ?_⟩
  · rw [sumAt_append, h.sm, sumAt_cons, sumAt_cons, sumAt_cons]
    show _ + ((if ex = ps then f else 0) + ((if ex = ps then -f else 0) + ((if ex = ps then 0 else 0) + 0))) = _
    split
    · rw [Rat.add_zero, Rat.add_zero, Rat.add_neg_cancel, Rat.add_zero]
    · rw [Rat.add_zero, Rat.add_zero, Rat.add_zero, Rat.add_zero]
  · rcases List.mem_append.mp hu with z | z
    · exact h.ln u z
    · simp only [List.mem_cons, List.not_mem_nil, or_false] at z
      rcases z with rfl | rfl | rfl <;> exact hl
  · rcases List.mem_append.mp hu with z | z
    · exact h.rb u z
    · simp only [List.mem_cons, List.not_mem_nil, or_false] at z
      rcases z with rfl | rfl | rfl
      · exact hf
      · exact hf.neg
      · exact RB.zero (by decide)
theorem Adds.perm {m : Nat} {p ts us : Pol} (h : Adds m p ts) (e : us.Perm ts) : Adds m p us :=
  ⟨fun ps => by rw [sumAt_perm ps e, h.sm], fun t ht => h.ln t (e.mem_iff.mp ht), fun t ht => h.rb t (e.mem_iff.mp ht)⟩
theorem Adds.poly {m : Nat} {p ts : Pol} (h : Adds m p ts) (nd : (p.map fun t => t.1).Nodup) (nz : ∀ t ∈ p, t.2 ≠ 0) : srt p = polyN ts := by
  unfold polyN
  refine srt_eq nd (kept_nd (acc_nd _)) nz kept_nz fun ps => ?_
  show _ = cf (kept (acc _)) ps
  rw [cf_kept ps (acc_nd _), cf_acc, h.sm, sumAt_cf ps nd]
theorem map_erase {α β : Type} (f : α → β) : ∀ (xs : List α) (k : Nat), (xs.map f).eraseIdx k = (xs.eraseIdx k).map f
  | [], k => by simp
  | x :: xs, 0 => by simp
  | x :: xs, k + 1 => by simp [map_erase f xs k]
theorem prD_mk (ps : List Int) (f : Rat) : D.tup [pwD ps, fD f] = prD (ps, f) := rfl
section
variable {k : Nat} {h : DH} {Q : DQ} {E : XQ}
theorem x_pairs_in {a : Addr} {m : Nat} {top : Int} {p : Pol} (hm : m ≤ 3) (hp : PolOk m top 21 p) (hz : p.length ≤ 10) (q : ∀ (ts : Pol) (g : DH), Adds m p ts → ts.length ≤ 2 * p.length + 3 → Q (.lst (ts.map prD)) g) : callD tab (k + 3) "_law_pairs_in" [.box a, pdD p, .int (m : Int)] h Q E := by
  refine call_of l__law_pairs_in rfl rfl ?_
  have sz : sizeLine = 16777216 := rfl
  unfold l__law_pairs_in
  walk_at "ev"
  intro d hd
  rw [walk_pd]
  refine forD_by (fun r σ g => ∃ done rest ts : Pol, p = done ++ rest ∧ r = rest.map (fun t => pwD t.1) ∧ Adds m done ts ∧ ts.length = 2 * done.length ∧ g = updD h d (.lst (ts.map prD)) ∧ ∃ o4 o5 o6 o7, σ = [some (.box a), some (pdD p), some (.int (m : Int)), some (.ref d), o4, o5, o6, o7, none, none, none, none]) ?_ ?_ _ _ _ ⟨[], p, [], rfl, rfl, .nil, rfl, rfl, _, _, _, _, rfl⟩
  · rintro x r σ g ⟨done, rest, ts, e1, er, ad, hl, rfl, o4, o5, o6, o7, rfl⟩ N hN
    refine ⟨trivial, ?_⟩
    cases rest with
    | nil => cases er
    | cons t rest =>
      rw [List.map_cons] at er
      cases er
      have htp : t ∈ p := by rw [e1]; simp
      have hdl : done.length + 1 ≤ 10 := by
        rw [e1, List.length_append, List.length_cons] at hz
        omega
      have ec : valK (pkK p) (pwK t.1) = some (fD t.2) := by rw [valK_pk, coef_of_mem hp.nd htp]; rfl
      have bn := (hp.cf t htp).1
      have bd := (hp.cf t htp).2
      have dn := t.2.den_nz
      walk_at "ev"
      unfold pdD
      rw [ix_dt]
      refine dget_dt (dKey_pw _) (keyOk_pw _) ec ?_
      walk_at "ev"
      have hw : ∀ n : Int, 0 < 1 + (if (if n < 0 then -n else n) < 5 then if n < 0 then -n else n else 5) ∧ 1 + (if (if n < 0 then -n else n) < 5 then if n < 0 then -n else n else 5) ≤ 6 := fun n => by
        split <;> (try split) <;> omega
      have g2 := (hw t.2.num).2
      refine x_take64 (hw _).1 (by omega) fun r g0 g1 => ?_
      have hv : ∃ v : Int, (v = 1 ∨ v = -1) ∧ L2.atI [D.int 1, D.int (-1)] (if t.2.num < 0 then 1 else 0) = some (.int v) := by
        split
        · exact ⟨-1, .inr rfl, at_1⟩
        · exact ⟨1, .inl rfl, at_0⟩
      obtain ⟨v, hv, ev⟩ := hv
      rw [ev, at_some, op_mul_i]
      refine ⟨mul64 (.inr (by omega)), ?_⟩
      have hc : (r * v).natAbs ≤ 6 := by rcases hv with rfl | rfl <;> omega
      generalize r * v = c at *
      have bd9 : (t.2.den : Int).natAbs < 2 ^ 9000 := Nat.lt_of_lt_of_le (hp.cf t htp).dn (Nat.pow_le_pow_right (by decide) (by decide))
      have bd24 : (t.2.den : Int).natAbs < 2 ^ 24 := by omega
      have hsum := part_add t.2.num c (t.2.den : Int) (den_ne _)
      rw [Rat.num_divInt_den] at hsum
      refine ⟨by simp only [lstAt, updD_same], x_lfraction (den_ne _) bd9 ?_⟩
      rw [prD_mk]
      refine (app_r updD_same (by rw [List.length_map]; omega) ?_).2
      refine ⟨by simp only [lstAt, updD_same], ?_⟩
      rw [op_sub_i]
      refine x_lfraction (den_ne _) bd9 ?_
      rw [updD_upd, prD_mk]
      refine (app_r updD_same (by rw [List.length_append, List.length_map, List.length_singleton]; omega) ?_).2
      rw [updD_upd]
      refine hN _ _ ⟨done ++ [t], rest, ts ++ [(t.1, Rat.divInt c (t.2.den : Int)), (t.1, Rat.divInt (t.2.num - c) (t.2.den : Int))], by simp [e1], rfl, ad.two (hp.ln t htp) hsum (RB.divInt (by omega) bd24 (den_ne _)) (RB.divInt (by omega) bd24 (den_ne _)), ?_, ?_, _, _, _, _, rfl⟩
      · simp only [List.length_append, List.length_cons, List.length_nil]
        omega
      · simp
  · rintro σ g ⟨done, rest, ts, e1, er, ad, hl, rfl, o4, o5, o6, o7, rfl⟩
    refine ⟨trivial, ?_⟩
    have : rest = [] := by
      cases rest with
      | nil => rfl
      | cons t rest => cases er
    subst this
    rw [List.append_nil] at e1
    subst e1
    walk_at "ev"
    refine ⟨by omega, by omega, ?_⟩
    rw [Int.toNat_natCast]
    refine lcD_by (fun r acc g => g = updD h d (.lst (ts.map prD)) ∧ acc.length + r.length = m ∧ ∃ ps : List Int, acc = ps.map D.int) ?_ ?_ ?_ _ _ _ ⟨rfl, by rw [rngL_len]; simp, [], rfl⟩
    · rintro x r acc g ⟨_, e, _⟩
      rw [List.length_cons] at e
      omega
    · rintro x r acc g ⟨rfl, e, ps, rfl⟩ N1 N0 hN1 hN0
      refine ⟨trivial, ?_⟩
      walk_at "ev"
      refine x_take64 (by decide) (by decide) fun r1 g0 g1 => hN1 _ _ ⟨rfl, ?_, ps ++ [r1], by simp⟩
      rw [List.length_cons] at e
      rw [List.length_append, List.length_singleton]
      omega
    · rintro acc g ⟨rfl, e, ex, rfl⟩
      rw [List.length_map, List.length_nil, Nat.add_zero] at e
      refine ⟨trivial, ?_⟩
      walk_at "ev"
      refine x_smallF fun f hf _ => ?_
      walk_at "ev"
      rw [op_add_rl updD_same]
      refine ⟨by simp only [List.length_map, List.length_cons, List.length_nil]; omega, ?_⟩
      rw [newL_t]
      intro d1 hd1 d2 hd2
      let ts' : Pol := ts ++ [(ex, f), (ex, -f), (ex, 0)]
      have ets : ts.map prD ++ [D.tup [D.tup (List.map D.int ex), fD f], D.tup [D.tup (List.map D.int ex), D.tup [D.int (0 - f.num), D.int ↑f.den]], D.tup [D.tup (List.map D.int ex), D.tup [D.int 0, D.int 1]]] = ts'.map prD := by
        rw [fD_neg, List.map_append]
        rfl
      have ad' : Adds m p ts' := ad.nought e (hf.mono (by decide))
      have hl' : ts'.length = 2 * p.length + 3 := by
        show (ts ++ [(ex, f), (ex, -f), (ex, 0)]).length = _
        rw [List.length_append, hl]
        rfl
      have ne12 : d1 ≠ d2 := fun z => by
        rw [← z, updD_same] at hd2
        cases hd2
      rw [ets]
      refine whl_by (fun n σ g => ∃ xs fs : Pol, n = xs.length ∧ (xs ++ fs).Perm ts' ∧ g d1 = some (.lst (xs.map prD)) ∧ g d2 = some (.lst (fs.map prD)) ∧ σ = [some (D.box a), some (pdD p), some (D.int ↑m), some (.ref d1), o4, o5, o6, o7, some (D.tup (List.map D.int ex)), some (fD f), some (D.ref d2), none]) _ ⟨ts', [], rfl, by rw [List.append_nil], by rw [updD_ne ne12]; exact updD_same, updD_same, rfl⟩ ?_
      rintro n σ g ⟨xs, fs, rfl, pm, e1, e2, rfl⟩ N hN
      have hxl := pm.length_eq
      rw [List.length_append, hl'] at hxl
      walk_at "ev"
      rw [len_ref e1]
      walk_at "ev"
      by_cases hx : (0 : Int) < (xs.length : Int)
      · rw [if_pos hx]
        refine ⟨by simp only [lstAt, e2], by simp only [lstAt, e1], ?_⟩
        rw [len_ref e1]
        walk_at "ev"
        refine x_take64 hx (by omega) fun r g0 g1 => ?_
        refine pop1_r e1 g0 (by rw [List.length_map]; exact g1) (by omega) fun y hy => ?_
        have hr : r.toNat < xs.length := by omega
        rw [List.getElem?_map, List.getElem?_eq_getElem hr, Option.map_some] at hy
        cases hy
        refine (app_r (by rw [updD_ne (fun z => ne12 z.symm)]; exact e2) (by rw [List.length_map]; omega) ?_).2
        refine hN (xs.eraseIdx r.toNat).length _ _ ?_ ⟨xs.eraseIdx r.toNat, fs ++ [xs[r.toNat]], rfl, ?_, ?_, ?_, rfl⟩
        · rw [List.length_eraseIdx, if_pos hr]
          omega
        · refine List.Perm.trans ?_ pm
          have h1 := perm_erase (List.getElem?_eq_getElem hr)
          have h2 : (xs.eraseIdx r.toNat ++ (fs ++ [xs[r.toNat]])).Perm (xs[r.toNat] :: xs.eraseIdx r.toNat ++ fs) := by
            rw [← List.append_assoc]
            exact List.perm_append_singleton _ _
          exact h2.trans (h1.append_right fs)
        · rw [updD_ne ne12, updD_same, map_erase]
        · rw [updD_same, List.map_append]
          rfl
      · rw [if_neg hx]
        have hx0 : xs = [] := List.eq_nil_of_length_eq_zero (by omega)
        subst hx0
        walk_at "ev"
        rw [frz_r e2]
        rw [List.nil_append] at pm
        refine q fs _ (ad'.perm pm) ?_
        rw [pm.length_eq, hl']
        exact Nat.le_refl _
end
end U.K03

/-! Pk03d: the law. -/
namespace U.K03
open PySem Deep
local macro_rules | `(tactic| walk_at "ev") => `(tactic| try simp only [es_nil, es_cons, es_asg, es_par, es_sub, es_exp, es_ret, es_retN, es_ite, es_for, es_brk, es_cnt, es_pas, tn_nm, tn_tp, tns_nil, tns_cons, tnsLen,
  ev_v0, ev_vs, ev_cst, ev_glb, ev_typ, ev_op, ev_neg, ev_cmp, ev_chn, ev_and, ev_or, ev_not, ev_ite, ev_tup, ev_lst, ev_ix, ev_sl, ev_call, ev_bi, ev_mt, ev_tm, isStr_s, ev_dnew, ev_dget, ev_mxd, ev_lrng, lrng_i, dnew_t, dnew_k, es_frz, fz_some, walk_dt, walk_dk, ev_frz, ev_lc, ea_nil, ea_cons, ean_nil, ean_cons, eor_nil, eor_cons, eo_non, eo_som, ec_non, ec_som, ei_ex, ei_rng, ei_enm, ei_zip, ei_rev,
  bD_bl, tn_fD, len_fD, kit_fD, walk_fD, ix_f0, ix_f1, op_add_i, op_add_s, op_add_t, op_add_l, op_sub_i, op_mul_i, op_mul_s, op_mul_l, op_fdiv_i, op_mod_i, op_pow_i, neg_i, cmp_eq, cmp_ne, eq_i, eq_s, eq_b, cmp_lt, cmp_le, cmp_gt, cmp_ge, ix_tup, ix_lst, ix_box, ix_scr, at_some, lc_nil, lc_cons, newL_f, newL_t, newL_b, len_str, len_tup, len_lst, len_scr, bi_abs, bi_max2, bi_min2, bi_int_i, bi_int_b, bi_tup_t, bi_tup_l, set_box, walk_tup, walk_lst, walk_str, rng_1, rng_2, sl_tup, sl_lst, sl_scr, wipe_nil, wipe_cons, bi_isi, kit_tup, kit_int, kit_str, kit_bl, kit_non, kit_lst, kb_tt, kb_ii, kb_ib, kb_ll, kb_it, kb_lt, kb_tl, kb_ss, w_plus_plus, w_plus_less, w_plus_times, w_plus_over, w_plus_number, w_plus_letter, w_less_plus, w_less_less, w_less_times, w_less_over, w_less_number, w_less_letter, w_times_plus, w_times_less, w_times_times, w_times_over, w_times_number, w_times_letter, w_over_plus, w_over_less, w_over_times, w_over_over, w_over_number, w_over_letter, w_number_plus, w_number_less, w_number_times, w_number_over, w_number_number, w_number_letter, w_letter_plus, w_letter_less, w_letter_times, w_letter_over, w_letter_number, w_letter_letter, in_plus, in_less, in_times, in_over, in_number, in_letter, at_0, at_1, at_2, cmp_inn_t, cmp_notin_t, flat_s, all_ss,
  startD, List.map_cons, List.map_nil, List.length_cons, List.length_nil, List.replicate, Nat.sub_self, Nat.reduceSub, List.cons_append, List.nil_append, List.append_nil, List.getElem?_cons_zero, List.getElem?_cons_succ, List.set_cons_zero, List.set_cons_succ, Nat.reduceAdd, Nat.zero_add, Nat.add_zero, decide_eq_true_eq, Bool.false_eq_true, if_false, if_true, reduceIte, Bool.not_true, Bool.not_false, Bool.not_eq_true', decide_eq_false_iff_not, ite_not, decide_true, decide_false, eq_self_iff_true, List.length_map, true_and, and_true, reduceCtorEq, Bool.true_eq_false, sizeLine_eq, Nat.reduceLeDiff])
set_option hygiene false in
local macro_rules | `(tactic| walk_at "evt") => `(tactic| simp only [es_nil, es_cons, es_asg, es_par, es_sub, es_exp, es_ret, es_retN, es_ite, es_for, es_brk, es_cnt, es_pas, tn_nm, tn_tp, tns_nil, tns_cons, tnsLen,
  ev_v0, ev_vs, ev_cst, ev_glb, ev_typ, ev_op, ev_neg, ev_cmp, ev_chn, ev_and, ev_or, ev_not, ev_ite, ev_tup, ev_lst, ev_ix, ev_sl, ev_call, ev_bi, ev_mt, ev_tm, isStr_s, ev_dnew, ev_dget, ev_mxd, ev_lrng, lrng_i, dnew_t, dnew_k, es_frz, fz_some, walk_dt, walk_dk, ev_frz, ev_lc, ea_nil, ea_cons, ean_nil, ean_cons, eor_nil, eor_cons, eo_non, eo_som, ec_non, ec_som, ei_ex, ei_rng, ei_enm, ei_zip, ei_rev,
  bD_bl, tn_fD, len_fD, kit_fD, walk_fD, ix_f0, ix_f1, op_add_i, op_add_s, op_add_t, op_add_l, op_sub_i, op_mul_i, op_mul_s, op_mul_l, op_fdiv_i, op_mod_i, op_pow_i, neg_i, cmp_eq, cmp_ne, eq_i, eq_s, eq_b, cmp_lt, cmp_le, cmp_gt, cmp_ge, ix_tup, ix_lst, ix_box, ix_scr, at_some, lc_nil, lc_cons, newL_f, newL_t, newL_b, len_str, len_tup, len_lst, len_scr, bi_abs, bi_max2, bi_min2, bi_int_i, bi_int_b, bi_tup_t, bi_tup_l, set_box, walk_tup, walk_lst, walk_str, rng_1, rng_2, sl_tup, sl_lst, sl_scr, wipe_nil, wipe_cons, bi_isi, kit_tup, kit_int, kit_str, kit_bl, kit_non, kit_lst, kb_tt, kb_ii, kb_ib, kb_ll, kb_it, kb_lt, kb_tl, kb_ss, w_plus_plus, w_plus_less, w_plus_times, w_plus_over, w_plus_number, w_plus_letter, w_less_plus, w_less_less, w_less_times, w_less_over, w_less_number, w_less_letter, w_times_plus, w_times_less, w_times_times, w_times_over, w_times_number, w_times_letter, w_over_plus, w_over_less, w_over_times, w_over_over, w_over_number, w_over_letter, w_number_plus, w_number_less, w_number_times, w_number_over, w_number_number, w_number_letter, w_letter_plus, w_letter_less, w_letter_times, w_letter_over, w_letter_number, w_letter_letter, in_plus, in_less, in_times, in_over, in_number, in_letter, at_0, at_1, at_2, cmp_inn_t, cmp_notin_t, flat_s, all_ss,
  startD, List.map_cons, List.map_nil, List.length_cons, List.length_nil, List.replicate, Nat.sub_self, Nat.reduceSub, List.cons_append, List.nil_append, List.append_nil, List.getElem?_cons_zero, List.getElem?_cons_succ, List.set_cons_zero, List.set_cons_succ, Nat.reduceAdd, Nat.zero_add, Nat.add_zero, decide_eq_true_eq, Bool.false_eq_true, if_false, if_true, reduceIte, Bool.not_true, Bool.not_false, Bool.not_eq_true', decide_eq_false_iff_not, ite_not, decide_true, decide_false, eq_self_iff_true, List.length_map, true_and, and_true, reduceCtorEq, Bool.true_eq_false, sizeLine_eq, Nat.reduceLeDiff] at tl)
theorem pk3 : True := trivial
theorem eqv_pr (t : List Int × Rat) : PyData.eqv (prP t) (prP t) = true := by
  unfold prP
  rw [PyData.eqv, PySem.W.eqv_all_cons, PySem.W.eqv_all_cons, eqv_pw, eqv_f]
  simp [PyData.eqvAll]
theorem eqv_prs : ∀ ts : Pol, PyData.eqvAll (ts.map prP) (ts.map prP) = true
  | [] => by simp [PyData.eqvAll]
  | t :: ts => by rw [List.map_cons, PySem.W.eqv_all_cons, eqv_pr, eqv_prs ts]; rfl
theorem lay_ints : ∀ ps : List Int, PyData.canLayAll0 (ps.map .int) = true
  | [] => by simp [PyData.canLayAll0]
  | n :: ps => by simp [PyData.canLayAll0, PyData.canLay0, lay_ints ps]
theorem lay_prs : ∀ ts : Pol, PyData.canLayAll0 (ts.map prP) = true
  | [] => by simp [PyData.canLayAll0]
  | t :: ts => by
    rw [List.map_cons]
    simp [PyData.canLayAll0, PyData.canLay0, prP, pwP, fP, lay_ints, lay_prs ts]
theorem dep_prs : ∀ ts : Pol, PyData.depthAll (ts.map prP) ≤ 3
  | [] => by simp [PyData.depthAll]
  | t :: ts => by
    have h1 := dep_prs ts
    have h2 : (prP t).depth ≤ 3 := by
      simp only [prP, pwP, fP, PyData.depth, PyData.depthAll, depth_all]
      omega
    rw [List.map_cons, PyData.depthAll]
    omega
theorem shaped_prs (ts : Pol) : SeqAt.shaped (.list (ts.map prP)) = true := by
  have := dep_prs ts
  unfold SeqAt.shaped
  have h1 : (PyData.list (ts.map prP)).canLay0 = true := by rw [PyData.canLay0]; exact lay_prs ts
  have h2 : (PyData.list (ts.map prP)).depth ≤ 64 := by rw [PyData.depth]; omega
  rw [h1, decide_eq_true h2]
  rfl
theorem ite_body {c : Prop} [Decidable c] {T : DQ → Prop} {B : DQ} {d : D} {g : DH} (P : D → Prop) (hb : ∀ x, P x → B x g) (hT : (∀ x, P x → B x g) → T B) (hd : P d) : (if c then T B else B d g) := by
  split
  · exact hT hb
  · exact hb d hd
section
variable {k : Nat} {h : DH} {Q : DQ} {E : XQ}
theorem x_pointF {a : Addr} {m : Nat} (hm : m ≤ 1000) (q : ∀ pt : List Rat, pt.length = m → (∀ f ∈ pt, RB f 12 ∧ FB f 2520 2517480) → Q (ptsD pt) h) : callD tab (k + 3) "_law_point" [.box a, .int (m : Int)] h Q E := by
  refine call_of c__law_point rfl rfl ?_
  have sz : sizeLine = 16777216 := rfl
  unfold c__law_point
  walk_at "ev"
  refine ⟨by omega, by omega, ?_⟩
  rw [Int.toNat_natCast]
  refine lcD_by (fun r acc g => g = h ∧ acc.length + r.length = m ∧ ∃ pt : List Rat, acc = pt.map fD ∧ ∀ f ∈ pt, RB f 12 ∧ FB f 2520 2517480) ?_ ?_ ?_ _ _ _ ⟨rfl, by rw [rngL_len]; simp, [], rfl, fun _ z => (nomatch z)⟩
  · rintro x r acc g ⟨_, e, _⟩
    rw [List.length_cons] at e
    omega
  · rintro x r acc g ⟨rfl, e, pt, rfl, hp⟩ N1 N0 hN1 hN0
    refine ⟨trivial, ?_⟩
    walk_at "ev"
    refine x_smallF fun f hf hf2 => hN1 _ _ ⟨rfl, ?_, pt ++ [f], by simp, fun y hy => ?_⟩
    · rw [List.length_cons] at e
      rw [List.length_append, List.length_singleton]
      omega
    · rcases List.mem_append.mp hy with z | z
      · exact hp y z
      · rw [List.mem_singleton.mp z]
        exact ⟨hf.mono (by decide), (hf2.up 420 (by decide)).mono (by decide)⟩
  · rintro acc g ⟨rfl, e, pt, rfl, hp⟩
    rw [List.length_map, List.length_nil, Nat.add_zero] at e
    refine ⟨trivial, ?_⟩
    walk_at "ev"
    exact q pt e hp
theorem fb9 {n d : Int} (hn : n.natAbs ≤ 999) (hd : 1 ≤ d ∧ d ≤ 9) : FB (Rat.divInt n d) 2520 2517480 := by
  have : d = 1 ∨ d = 2 ∨ d = 3 ∨ d = 4 ∨ d = 5 ∨ d = 6 ∨ d = 7 ∨ d = 8 ∨ d = 9 := by omega
  rcases this with rfl | rfl | rfl | rfl | rfl | rfl | rfl | rfl | rfl
  · exact FB.of (c := 2520) (by decide) (by decide) (by decide) (by omega)
  · exact FB.of (c := 1260) (by decide) (by decide) (by decide) (by omega)
  · exact FB.of (c := 840) (by decide) (by decide) (by decide) (by omega)
  · exact FB.of (c := 630) (by decide) (by decide) (by decide) (by omega)
  · exact FB.of (c := 504) (by decide) (by decide) (by decide) (by omega)
  · exact FB.of (c := 420) (by decide) (by decide) (by decide) (by omega)
  · exact FB.of (c := 360) (by decide) (by decide) (by decide) (by omega)
  · exact FB.of (c := 315) (by decide) (by decide) (by decide) (by omega)
  · exact FB.of (c := 280) (by decide) (by decide) (by decide) (by omega)
theorem x_law (ns : List Int) (hl : ns.length ≤ 63) : callD tab (k + 8) "law" [.scr ns] (fun _ => none) (fun v _ => v = .bl true) (fun _ _ _ => False) := by
  refine call_of l_law rfl rfl ?_
  have sz : sizeLine = 16777216 := rfl
  unfold l_law
  walk_at "ev"
  have h3 : ((List.take (HT.sIx ns.length ns.length (some 3) - HT.sIx ns.length 0 none) (List.drop (HT.sIx ns.length 0 none) (ns.map D.int))).length) ≤ 3 := by
    rw [List.length_take]
    unfold HT.sIx
    simp
    omega
  refine ⟨by omega, by omega, ?_⟩
  refine forD_by (fun r σ g => (∀ x ∈ r, ∃ i : Nat, x = .int (i : Int)) ∧ ∃ o1 o2 o3 o4 o5 o6 o7 o8 o9 o10 o11, σ = [some (.scr ns), o1, o2, o3, o4, o5, o6, o7, o8, o9, o10, o11, none]) ?_ ?_ _ _ _ ⟨fun x hx => ?_, _, _, _, _, _, _, _, _, _, _, _, rfl⟩
  · rintro x r σ g ⟨hx, o1, o2, o3, o4, o5, o6, o7, o8, o9, o10, o11, rfl⟩ N hN
    obtain ⟨i, rfl⟩ := hx x (List.mem_cons_self ..)
    refine ⟨trivial, ?_⟩
    walk_at "ev"
    refine x_box fun a => ?_
    walk_at "ev"
    refine x_take64 (by decide) (by decide) fun r0 g0 g1 => ?_
    walk_at "ev"
    have em : 1 + r0 = ((r0.toNat + 1 : Nat) : Int) := by omega
    rw [em]
    have hm : 1 ≤ r0.toNat + 1 ∧ r0.toNat + 1 ≤ 3 := by omega
    generalize r0.toNat + 1 = m at *
    have ht : ∃ top : Int, L2.atI [D.int 4, D.int 4, D.int 3] ((m : Int) - 1) = some (.int top) ∧ 0 < top ∧ top ≤ 4 := by
      have : m = 1 ∨ m = 2 ∨ m = 3 := by omega
      rcases this with rfl | rfl | rfl
      · exact ⟨4, at_0, by decide, by decide⟩
      · exact ⟨4, at_1, by decide, by decide⟩
      · exact ⟨3, at_2, by decide, by decide⟩
    obtain ⟨top, et, ht0, ht4⟩ := ht
    rw [et, at_some]
    walk_at "ev"
    refine x_drawn_polyF (m := m) (most := 5) hm.2 (by decide) ⟨ht0, by omega⟩ fun p1 hp1 f1 l1 => ?_
    walk_at "ev"
    refine x_drawn_polyF (m := m) (most := 5) hm.2 (by decide) ⟨ht0, by omega⟩ fun p2 hp2 f2 l2 => ?_
    walk_at "ev"
    refine x_take64 (by decide) (by decide) fun r2 g2 g3 => ?_
    walk_at "ev"
    refine ite_body (T := fun B => callD tab (k + 7) "_law_near" [D.box a, pdD p1, pdD p2] g B fun _ _ _ => False) (fun x => ∃ p : Pol, x = pdD p ∧ PolOk m top 21 p ∧ (∀ t ∈ p, FB t.2 12 33554432) ∧ p.length ≤ 10) ?_ (fun hb => ?_) ⟨p2, rfl, hp2, f2, by omega⟩
    · rintro x ⟨p2, rfl, hp2, f2, l2⟩
      have hz : p1.length * p2.length ≤ 50 := Nat.le_trans (Nat.mul_le_mul l1 l2) (by decide)
      have hz2 : p2.length * p1.length ≤ 50 := by rw [Nat.mul_comm]; exact hz
      have hz3 : p1.length * p1.length ≤ 50 := Nat.le_trans (Nat.mul_le_mul l1 l1) (by decide)
      refine x_pairs_in hm.2 hp1 (by omega) fun ts g1 ad lts => ?_
      walk_at "ev"
      rw [show ∀ (xs : List D) (R : DQ), biD Bi.lis LK.f [D.lst xs] g1 R = R (.lst xs) g1 from fun _ _ => rfl]
      have e1 := ad.poly hp1.nd hp1.nz
      refine x_poly rfl (b := 24) (.inr rfl) (fun t ht z => ?_) ad.rb (by omega) ?_
      · have := ad.ln t ht
        rw [z, List.length_nil] at this
        omega
      rw [← e1]
      have pf1 := (pf_of hp1 ht4 f1).srt
      have ls1 : (srt p1).length = p1.length := (srt_perm p1).length_eq
      refine x_same hp1.nd (by omega) rfl (showPF pf1 hm.2 (by decide) (by decide) (by decide) (by omega)) ?_
      walk_at "ev"
      rw [eq_d (p := .list (ts.map prP)) (q := .list (ts.map prP)) rfl (topP_l (toPs_map toP_pr ts)) (topP_l (toPs_map toP_pr ts))]
      refine ⟨shaped_prs ts, shaped_prs ts, ?_⟩
      rw [show PyData.eqv (.list (ts.map prP)) (.list (ts.map prP)) = true by rw [PyData.eqv]; exact eqv_prs ts]
      walk_at "ev"
      refine x_poly rfl (b := 0) (ts := []) (.inr rfl) (fun t ht => (nomatch ht)) (fun t ht => (nomatch ht)) (by decide) ?_
      intro d hd
      rw [frz_rt updD_same, delD_updD hd]
      rw [show polyN [] = [] from List.mergeSort_nil]
      refine x_same (p := []) (d := []) (by simp) (by decide) List.mergeSort_nil (show_pol (fun _ z => (nomatch z)) (fun _ z => (nomatch z)) (by decide)) ?_
      walk_at "ev"
      refine ⟨by omega, by omega, ?_⟩
      rw [Int.toNat_natCast]
      refine lcD_by (fun r acc g => g = g1 ∧ acc.length + r.length = m ∧ ∃ pt : List Rat, acc = pt.map fD ∧ ∀ f ∈ pt, RB f 12 ∧ FB f 2520 2517480) ?_ ?_ ?_ _ _ _ ⟨rfl, by rw [rngL_len]; simp, [], rfl, fun _ z => (nomatch z)⟩
      · rintro x r acc g ⟨_, e, _⟩
        rw [List.length_cons] at e
        omega
      · rintro x r acc g ⟨rfl, e, pt, rfl, hp⟩ N1 N0 hN1 hN0
        refine ⟨trivial, ?_⟩
        walk_at "ev"
        refine x_take64 (by decide) (by decide) fun r3 g4 g5 => ?_
        walk_at "ev"
        refine x_take64 (by decide) (by decide) fun r4 g6 g7 => ?_
        walk_at "ev"
        have hb : (1 + r4).natAbs < 2 ^ 12 := by omega
        refine x_lfraction (by omega) (Nat.lt_of_lt_of_le hb (Nat.pow_le_pow_right (by decide) (by decide))) (hN1 _ _ ⟨rfl, ?_, pt ++ [Rat.divInt (r3 - 999) (1 + r4)], by simp, fun y hy => ?_⟩)
        · rw [List.length_cons] at e
          rw [List.length_append, List.length_singleton]
          omega
        · rcases List.mem_append.mp hy with z | z
          · exact hp y z
          · rw [List.mem_singleton.mp z]
            exact ⟨RB.divInt (by omega) hb (by omega), fb9 (by omega) (by omega)⟩
      · rintro acc g ⟨rfl, e, far, rfl, hfar⟩
        rw [List.length_map, List.length_nil, Nat.add_zero] at e
        refine ⟨trivial, ?_⟩
        walk_at "ev"
        refine x_pointF (by omega) fun pt lpt hpt => ?_
        walk_at "ev"
        intro d2 hd2
        rw [frz_rt updD_same, delD_updD hd2]
        have all : ∀ q1 q2 : Pol, PolOk m top 21 q1 → PolOk m top 21 q2 → (∀ t ∈ q1, FB t.2 12 33554432) → (∀ t ∈ q2, FB t.2 12 33554432) → q1.length * q2.length ≤ 50 ∧ q1.length ≤ 10 ∧ q2.length ≤ 10 → ∀ (f : List Rat), f.length = m → (∀ x ∈ f, RB x 12 ∧ FB x 2520 2517480) → ∀ (R : DQ) (h : DH), R (.bl true) h → callD tab (k + 7) "_law_right" [pdD q1, pdD q2, .lst [ptsD f]] h R (fun _ _ _ => False) := fun q1 q2 a1 a2 a3 a4 a5 f a6 a7 R h a8 =>
          x_right (pts := [f]) hm ht4 a1 a2 a3 a4 a5 (fun y hy => by rw [List.mem_singleton.mp hy]; exact ⟨a6, a7⟩) a8
        refine forD_by (fun r σ g => (∀ x ∈ r, ∃ q1 q2 : Pol, x = .tup [pdD q1, pdD q2] ∧ PolOk m top 21 q1 ∧ PolOk m top 21 q2 ∧ (∀ t ∈ q1, FB t.2 12 33554432) ∧ (∀ t ∈ q2, FB t.2 12 33554432) ∧ q1.length * q2.length ≤ 50 ∧ q1.length ≤ 10 ∧ q2.length ≤ 10) ∧ ∃ o11, σ = [some (D.scr ns), some (D.int ↑i), some (D.box a), some (D.int ↑m), some (D.int top), some (pdD p1), some (pdD p2), some (D.lst (List.map prD ts)), some (D.lst (List.map prD ts)), some (D.lst (far.map fD)), some (D.lst [ptsD pt, D.tup (far.map fD)]), o11, none]) ?_ ?_ _ _ _ ⟨fun x hx => ?_, _, rfl⟩
        · rintro x r σ g' ⟨hx', o11, rfl⟩ N2 hN2
          obtain ⟨q1, q2, rfl, a1, a2, a3, a4, a5⟩ := hx' x (List.mem_cons_self ..)
          refine ⟨trivial, ?_⟩
          walk_at "ev"
          refine all q1 q2 a1 a2 a3 a4 a5 pt lpt hpt _ _ ?_
          walk_at "ev"
          exact hN2 _ _ ⟨fun y hy => hx' y (List.mem_cons_of_mem _ hy), _, rfl⟩
        · rintro σ g' ⟨_, o11, rfl⟩
          refine ⟨trivial, ?_⟩
          walk_at "ev"
          refine all p1 p2 hp1 hp2 f1 f2 ⟨hz, by omega, by omega⟩ far e hfar _ _ ?_
          walk_at "ev"
          exact hN _ _ ⟨fun y hy => hx y (List.mem_cons_of_mem _ hy), _, _, _, _, _, _, _, _, _, _, _, rfl⟩
        · simp only [List.mem_cons, List.not_mem_nil, or_false] at hx
          rcases hx with rfl | rfl | rfl | rfl
          · exact ⟨p1, p2, rfl, hp1, hp2, f1, f2, hz, by omega, by omega⟩
          · exact ⟨p2, p1, rfl, hp2, hp1, f2, f1, hz2, by omega, by omega⟩
          · exact ⟨p1, p1, rfl, hp1, hp1, f1, f1, hz3, by omega, by omega⟩
          · exact ⟨[], p1, rfl, .nil, hp1, (fun _ z => (nomatch z)), f1, by simp, by simp, by omega⟩
    · refine x_near hp1 hp2 (F := fun f => FB f 12 33554432) (fun t ht => ⟨f1 t ht, (f1 t ht).neg⟩) f2 ht4 hm (by decide) (by omega) fun p e3 e4 e5 => hb _ ⟨p, rfl, e3, e4, by omega⟩
  · rintro σ g ⟨_, o1, o2, o3, o4, o5, o6, o7, o8, o9, o10, o11, rfl⟩
    refine ⟨trivial, ?_⟩
    walk_at "ev"
  · obtain ⟨i, e, _⟩ := rng0_mem hx
    exact ⟨i, e⟩
end
end U.K03

open PySem PySem.W PySem.Calls PyProof.Rows
set_option maxRecDepth 100000 in
set_option maxHeartbeats 0 in
theorem PySem.Challenge.cw_undivide_k03_whole_polynomials_by_points_holds : PySem.Challenge.rw_undivide_k03_whole_polynomials_by_points.Holds := by
  w_on; o_law
  refine HandSHeadRun.head_any (r := OpenLaw.row PySem.Challenge.rw_undivide_k03_whole_polynomials_by_points) (q := view (OpenLaw.row PySem.Challenge.rw_undivide_k03_whole_polynomials_by_points).prog [35]) (H := U.K03.hk) (ob := U.K03.ob) (M := 4000) (loose := U.K03.loose) (d := HandSHeadRun.topDef (OpenLaw.row PySem.Challenge.rw_undivide_k03_whole_polynomials_by_points).prog 35) (kwd := []) U.K03.ob_eq
    (by kernel_rfl) (fun s => by kernel_rfl) U.K03.run (by kernel_rfl) (by kernel_rfl) (by kernel_rfl) (by rfl) (by first | assumption | decide +kernel) (by decide +kernel) ⟨rfl, rfl, rfl, rfl, rfl, by decide +kernel⟩ ?hw ?hc
  case hw => w_witness2
  case hc =>
    exact Deep.walk_ofD (l := PySem.Challenge.rw_undivide_k03_whole_polynomials_by_points) (n := 63) (k := 12) (x := "_law_script") (e := U.K03.e_law) (tab := U.K03.tab) (ents := U.K03.ents) (bl := U.K03.bl) (gl := U.K03.gl) (fl := U.K03.fl) rfl (by decide) (by kernel_rfl) ⟨rfl, by decide, by decide⟩ (by kernel_rfl) U.K03.entsB U.K03.entsP U.K03.entsT U.K03.entsF
      (by unfold U.K03.ents; simp only [List.mem_cons, true_or, or_true]) rfl (fun ns hl => U.K03.x_law ns hl)

