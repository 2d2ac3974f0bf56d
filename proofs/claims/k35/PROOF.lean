import PyProof.Rows.All
import Wide.All
import OpenK.AllK
import Wide.FinOn
import KE.KDictKeyed
import KE.KDictWalk
import HandS.ForMost
import HandS.Walk
import HandS.SlotsOwn
import KE.SortData
import KE.GoesEnum
import KE.GoesZip
import HandS.Zip
import HandS.ClsMeth
import HandS.CallLocal
import HandS.Defaults
import HandS.TupMul
import HandS.Deep
import HandS.StrMore
import HandS.Exc
import HandS.WordsExc
import HandS.Property
import HandS.Star
import HandS.IsInst
import HandS.Wide
import HandS.TupAny
import HandS.Codes
import KE.KStateDown
import Lean
import HandS.Head0
import HandS.Head1
import HandS.Head2
import HandS.HeadEnd
import HandS.HeadHook1
import HandS.HeadHook2
import PySem.Challenge.RW_roundswap_k35_whole_words_that_do_not_tu
/-! text RD1 -/
set_option Elab.async false
set_option linter.all false
set_option maxRecDepth 100000
set_option maxHeartbeats 4000000
/-! dicts whose keys are nested tuples, over the layer: told as HO.ext -/
namespace K35
open PySem PySem.Spec PyProof.Rows L2

abbrev NK := NestedKey
abbrev Ent := NK × Addr × V
/-- an entry of ours and an entry of the object -/
def NE (p : Ent) (x : NK × Addr × Value) : Prop := p.1 = x.1 ∧ p.2.1 = x.2.1 ∧ RelV p.2.2 x.2.2
abbrev NEs : List Ent → List (NK × Addr × Value) → Prop := Paired NE

def objN (P : Program) (w : World) (o : Obj) (kvs : List Ent) : Prop :=
  o.ExactDict ∧ ∃ (es : Array DictEntry) (ep : Nat) (xs : List (NK × Addr × Value)), o.data = .dict es ep ∧ es.toList = xs.map (entryOfKey (nestedKind P w)) ∧ (xs.map (·.1)).Nodup ∧ NEs kvs xs
def phiN (P : Program) (w : World) (d : Addr) (kvs : List Ent) : Heap → Prop := fun h =>
  kvs.length ≤ sizeLine ∧ (d == sysModules) = false ∧ ∃ o, h.get? d = some o ∧ objN P w o kvs
abbrev hoN (P : Program) (w : World) (d : Addr) (kvs : List Ent) : HO := .ext (phiN P w d kvs)

theorem phiN.there {P : Program} {w : World} {d : Addr} {kvs : List Ent} {h : Heap} (x : phiN P w d kvs h) : ∃ o, h.get? d = some o :=
  let ⟨_, _, o, e, _⟩ := x; ⟨o, e⟩
theorem phiN.stable {P : Program} {w : World} {d : Addr} {kvs : List Ent} {h1 h2 : Heap} (x : phiN P w d kvs h1) (k : ∀ o, h1.get? d = some o → h2.get? d = some o) : phiN P w d kvs h2 :=
  let ⟨a, b, o, e, q⟩ := x; ⟨a, b, o, k o e, q⟩
theorem hoN_ok {P : Program} {w : World} {d : Addr} {kvs : List Ent} {H : Hp} {h : Heap} (x : phiN P w d kvs h) : ObjOk P w H h d (hoN P w d kvs) :=
  ⟨x, x.there, fun _ _ a k => a.stable k⟩
theorem phi_of {P : Program} {w : World} {H : Hp} {h : Heap} {d : Addr} {kvs : List Ent} (ok : HOk P w H h) (r : Rd H d (hoN P w d kvs)) : phiN P w d kvs h := (r.ok ok).1

/-! a key by what is tracked -/
/-- at a stands a tuple of the ints ns -/
abbrev IT (H : Hp) (a : Addr) (ns : List Int) : Prop := H a = some (.tup (ns.map V.int))
/-- the tuples that are tracked in H are tracked in H' -/
def STup (H H' : Hp) : Prop := ∀ b xs, H b = some (.tup xs) → H' b = some (.tup xs)
theorem STup.refl (H : Hp) : STup H H := fun _ _ e => e
theorem STup.trans {H H1 H2 : Hp} (a : STup H H1) (b : STup H1 H2) : STup H H2 := fun c xs e => b c xs (a c xs e)
theorem Same.tups {H H' : Hp} (s : Same H H') : STup H H' := fun b xs e => s b _ e

/-- a kind of keys: how a key is written, what stands in H -/
structure KC (κ : Type) where
  enc : κ → NK
  at_ : Hp → Addr → κ → Prop
  inj : ∀ a b, enc a = enc b → a = b
  keep : ∀ {H H' : Hp} {a : Addr} {k : κ}, STup H H' → at_ H a k → at_ H' a k
  is : ∀ {P : Program} {w : World} {H : Hp} {h : Heap} {a : Addr} {k : κ}, HOk P w H h → at_ H a k → (nestedKind P w).is h (enc k) a

abbrev Place := List Int
theorem depthAll_num : ∀ ns : List Int, NestedKey.depthAll (ns.map NestedKey.num) = 0
  | [] => by simp [NestedKey.depthAll]
  | n :: ns => by
    rw [List.map_cons, NestedKey.depthAll, depthAll_num ns]
    simp [NestedKey.depth]
theorem nested_nums {h : Heap} : ∀ {ns : List Int} {us : List Value}, Vals (ns.map V.int) us → NestedAll h (ns.map NestedKey.num) us
  | [], _, r => by cases r; exact .nil
  | n :: ns, _, r => by
    cases r with
    | cons a t =>
      obtain ⟨k, rfl⟩ := a
      exact .cons (.int n k) (nested_nums t)
theorem nested_ints {P : Program} {w : World} {H : Hp} {h : Heap} {a : Addr} {ns : List Int} (ok : HOk P w H h) (e : IT H a ns) : NestedIs h (.tup (ns.map .num)) (.ref a) := by
  obtain ⟨_, its, r, o, h1, h2, n, h3⟩ := (show ObjOk P w H h a (.tup (ns.map V.int)) from ok a _ e)
  exact .tup h1 h2 h3 (by simpa using nested_nums r)
theorem nums_inj : ∀ {a b : List Int}, a.map NestedKey.num = b.map NestedKey.num → a = b
  | [], [], _ => rfl
  | [], _ :: _, e => by simp at e
  | _ :: _, [], e => by simp at e
  | x :: xs, y :: ys, e => by
    rw [List.map_cons, List.map_cons] at e
    injection e with e1 e2
    injection e1 with e1
    rw [e1, nums_inj e2]
/-- keys that are places -/
def kcP : KC Place where
  enc := fun ns => .tup (ns.map .num)
  at_ := fun H a ns => IT H a ns
  inj := fun a b e => by
    injection e with e
    exact nums_inj e
  keep := fun s e => s _ _ e
  is := fun ok e => ⟨nested_ints ok e, by simp [NestedKey.depth, depthAll_num]⟩
/-- keys that are streets: a place and a letter's number -/
def kcS : KC (Place × Nat) where
  enc := fun k => .tup [.tup (k.1.map .num), .num (k.2 : Int)]
  at_ := fun H a k => ∃ q, IT H q k.1 ∧ H a = some (.tup [.ref q, .int (k.2 : Int)])
  inj := fun a b e => by
    injection e with e
    injection e with e1 e2
    injection e1 with e1
    injection e2 with e2 _
    injection e2 with e2
    have h1 := nums_inj e1
    have h2 : a.2 = b.2 := by omega
    exact Prod.ext h1 h2
  keep := fun s ⟨q, e1, e2⟩ => ⟨q, s _ _ e1, s _ _ e2⟩
  is := fun {P w H h a k} ok ⟨q, e1, e2⟩ => by
    refine ⟨?_, ?_⟩
    · obtain ⟨_, its, r, o, h1, h2, n, h3⟩ := (show ObjOk P w H h a (.tup [V.ref q, V.int (k.2 : Int)]) from ok a _ e2)
      obtain ⟨u, v, rfl, ru, rv⟩ := vals2 r
      cases ru
      obtain ⟨t, rfl⟩ := rv
      exact .tup h1 h2 h3 (.cons (nested_ints ok e1) (.cons (.int _ t) .nil))
    · simp [NestedKey.depth, NestedKey.depthAll, depthAll_num]

/-! pairs by key -/
section
variable {κ : Type} [DecidableEq κ] {α : Type}
def getE (es : List (κ × α)) (k : κ) : Option α := (es.find? fun e => decide (e.1 = k)).map (·.2)
def putE (es : List (κ × α)) (k : κ) (v : α) : List (κ × α) := if (getE es k).isSome then es.map (fun e => if e.1 = k then (e.1, v) else e) else es ++ [(k, v)]
def delE (es : List (κ × α)) (k : κ) : List (κ × α) := es.filter fun e => decide (e.1 ≠ k)
theorem getE_nil {k : κ} : getE ([] : List (κ × α)) k = none := rfl
theorem getE_pos {p : κ × α} {r : List (κ × α)} {k : κ} (e : p.1 = k) : getE (p :: r) k = some p.2 := by simp [getE, List.find?_cons, e]
theorem getE_neg {p : κ × α} {r : List (κ × α)} {k : κ} (e : ¬ p.1 = k) : getE (p :: r) k = getE r k := by simp [getE, List.find?_cons, e]
theorem length_putE (es : List (κ × α)) (k : κ) (v : α) : (putE es k v).length ≤ es.length + 1 := by
  unfold putE
  split <;> simp
theorem length_delE (es : List (κ × α)) (k : κ) : (delE es k).length ≤ es.length := List.length_filter_le _ _
end

/-- the entries kvs are the pairs es, their keys in H -/
def EK {κ : Type} (c : KC κ) (H : Hp) (e : κ × Int) (p : Ent) : Prop := p.1 = c.enc e.1 ∧ c.at_ H p.2.1 e.1 ∧ p.2.2 = .int e.2
abbrev EKs {κ : Type} (c : KC κ) (H : Hp) : List (κ × Int) → List Ent → Prop := Paired (EK c H)
theorem EKs.keep {κ : Type} {c : KC κ} {H H' : Hp} {es : List (κ × Int)} {kvs : List Ent} (x : EKs c H es kvs) (s : STup H H') : EKs c H' es kvs :=
  Paired.mapP x fun _ _ z => ⟨z.1, c.keep s z.2.1, z.2.2⟩

section
variable {κ : Type} [DecidableEq κ] {c : KC κ} {H : Hp}
theorem ek_at {es : List (κ × Int)} {kvs : List Ent} {xs : List (NK × Addr × Value)} (r : EKs c H es kvs) (q : NEs kvs xs) (k : κ) :
    (getE es k = none ∧ atKey xs (c.enc k) = none) ∨ ∃ (n : Int) (t : Tok) (a : Addr), getE es k = some n ∧ atKey xs (c.enc k) = some (a, .int n t) := by
  induction r generalizing xs with
  | nil =>
    cases q
    exact .inl ⟨rfl, rfl⟩
  | @cons e p es kvs h t ih =>
    cases q with
    | @cons _ x _ xs hx tx =>
      obtain ⟨h1, h2, h3⟩ := h
      obtain ⟨x1, x2, x3⟩ := hx
      by_cases ek : e.1 = k
      · right
        rw [h3] at x3
        obtain ⟨t, x3⟩ := x3
        refine ⟨e.2, t, x.2.1, getE_pos ek, ?_⟩
        have : x.1 = c.enc k := by rw [← x1, h1, ek]
        simp only [atKey, List.find?_cons, this, decide_true, Option.map_some]
        exact congrArg some (Prod.ext rfl x3)
      · have ne : ¬ x.1 = c.enc k := fun z => ek (c.inj _ _ (by rw [← h1, x1, z]))
        have e2 : atKey (x :: xs) (c.enc k) = atKey xs (c.enc k) := by simp [atKey, List.find?_cons, ne]
        rw [getE_neg ek, e2]
        exact ih tx
theorem ek_put {es : List (κ × Int)} {kvs : List Ent} {xs : List (NK × Addr × Value)} (r : EKs c H es kvs) (q : NEs kvs xs) (k : κ) {a : Addr} (ha : c.at_ H a k) (n : Int) (t : Tok) :
    ∃ kvs', EKs c H (putE es k n) kvs' ∧ NEs kvs' (storedH xs (c.enc k) a (.int n t)) := by
  have repl : ∀ {es : List (κ × Int)} {kvs : List Ent} {xs : List (NK × Addr × Value)}, EKs c H es kvs → NEs kvs xs →
      ∃ kvs', EKs c H (es.map fun e => if e.1 = k then (e.1, n) else e) kvs' ∧ NEs kvs' (xs.map (putAt (c.enc k) (.int n t))) := by
    intro es kvs xs r q
    induction r generalizing xs with
    | nil =>
      cases q
      exact ⟨[], .nil, .nil⟩
    | @cons e p es kvs h tl ih =>
      cases q with
      | @cons _ x _ xs hx tx =>
        obtain ⟨kvs', i1, i2⟩ := ih tx
        obtain ⟨h1, h2, h3⟩ := h
        obtain ⟨x1, x2, x3⟩ := hx
        by_cases ek : e.1 = k
        · have : x.1 = c.enc k := by rw [← x1, h1, ek]
          refine ⟨(p.1, p.2.1, .int n) :: kvs', ?_, ?_⟩
          · rw [List.map_cons, if_pos ek]
            exact .cons ⟨h1, h2, rfl⟩ i1
          · rw [List.map_cons]
            unfold putAt
            rw [if_pos this]
            exact .cons ⟨x1, x2, t, rfl⟩ i2
        · have ne : ¬ x.1 = c.enc k := fun z => ek (c.inj _ _ (by rw [← h1, x1, z]))
          refine ⟨p :: kvs', ?_, ?_⟩
          · rw [List.map_cons, if_neg ek]
            exact .cons ⟨h1, h2, h3⟩ i1
          · rw [List.map_cons]
            unfold putAt
            rw [if_neg ne]
            exact .cons ⟨x1, x2, x3⟩ i2
  unfold putE storedH
  rcases ek_at r q k with ⟨g1, g2⟩ | ⟨m, t', b, g1, g2⟩
  · rw [g1, g2]
    refine ⟨kvs ++ [(c.enc k, a, .int n)], ?_, ?_⟩
    · exact Paired.snoc r ⟨rfl, ha, rfl⟩
    · exact Paired.snoc q ⟨rfl, rfl, t, rfl⟩
  · rw [g1, g2]
    exact repl r q
theorem ek_del {es : List (κ × Int)} {kvs : List Ent} {xs : List (NK × Addr × Value)} (r : EKs c H es kvs) (q : NEs kvs xs) (k : κ) :
    ∃ kvs', EKs c H (delE es k) kvs' ∧ NEs kvs' (withoutH xs (c.enc k)) := by
  unfold delE withoutH
  induction r generalizing xs with
  | nil =>
    cases q
    exact ⟨[], .nil, .nil⟩
  | @cons e p es kvs h tl ih =>
    cases q with
    | @cons _ x _ xs hx tx =>
      obtain ⟨kvs', i1, i2⟩ := ih tx
      obtain ⟨h1, h2, h3⟩ := h
      obtain ⟨x1, x2, x3⟩ := hx
      by_cases ek : e.1 = k
      · have : x.1 = c.enc k := by rw [← x1, h1, ek]
        refine ⟨kvs', ?_, ?_⟩
        · rw [List.filter_cons, if_neg (by simp [ek])]
          exact i1
        · rw [List.filter_cons, if_neg (by simp [this])]
          exact i2
      · have ne : ¬ x.1 = c.enc k := fun z => ek (c.inj _ _ (by rw [← h1, x1, z]))
        refine ⟨p :: kvs', ?_, ?_⟩
        · rw [List.filter_cons, if_pos (by simp [ek])]
          exact .cons ⟨h1, h2, h3⟩ i1
        · rw [List.filter_cons, if_pos (by simp [ne])]
          exact .cons ⟨x1, x2, x3⟩ i2
theorem ek_len {es : List (κ × Int)} {kvs : List Ent} (r : EKs c H es kvs) : es.length = kvs.length := Paired.length r
theorem ne_len {kvs : List Ent} {xs : List (NK × Addr × Value)} (q : NEs kvs xs) : kvs.length = xs.length := Paired.length q
theorem ek_is {P : Program} {w : World} {h : Heap} {es : List (κ × Int)} {kvs : List Ent} {xs : List (NK × Addr × Value)} (ok : HOk P w H h) (r : EKs c H es kvs) (q : NEs kvs xs) :
    ∀ x ∈ xs, (nestedKind P w).is h x.1 x.2.1 := by
  induction r generalizing xs with
  | nil =>
    cases q
    intro x hx
    exact nomatch hx
  | @cons e p es kvs h tl ih =>
    cases q with
    | @cons _ x _ xs hx tx =>
      intro y hy
      obtain ⟨h1, h2, h3⟩ := h
      obtain ⟨x1, x2, x3⟩ := hx
      rcases List.mem_cons.mp hy with rfl | hy
      · rw [← x1, ← x2, h1]
        exact c.is ok h2
      · exact ih tx y hy
theorem ek_nodup {es : List (κ × Int)} {kvs : List Ent} {xs : List (NK × Addr × Value)} (r : EKs c H es kvs) (q : NEs kvs xs) (nd : (xs.map (·.1)).Nodup) : (es.map (·.1)).Nodup := by
  have e : xs.map (·.1) = es.map fun e => c.enc e.1 := by
    clear nd
    induction r generalizing xs with
    | nil =>
      cases q
      rfl
    | @cons e p es kvs h tl ih =>
      cases q with
      | @cons _ x _ xs hx tx =>
        rw [List.map_cons, List.map_cons, ih tx, ← hx.1, h.1]
  rw [e] at nd
  have : (es.map fun e => c.enc e.1) = (es.map (·.1)).map c.enc := by rw [List.map_map]; rfl
  rw [this] at nd
  exact (List.pairwise_map.mp nd).imp fun h e => h (congrArg c.enc e)
end

/-- the dict at d holds the pairs es; it may be written | it stands for good -/
def DN {κ : Type} (P : Program) (w : World) (c : KC κ) (H : Hp) (d : Addr) (es : List (κ × Int)) : Prop := ∃ kvs, H d = some (hoN P w d kvs) ∧ EKs c H es kvs
def FN {κ : Type} (P : Program) (w : World) (c : KC κ) (H : Hp) (d : Addr) (es : List (κ × Int)) : Prop := ∃ od kvs, H d = some (.frz od (hoN P w d kvs)) ∧ EKs c H es kvs
/-- either -/
def RN {κ : Type} (P : Program) (w : World) (c : KC κ) (H : Hp) (d : Addr) (es : List (κ × Int)) : Prop := ∃ kvs, Rd H d (hoN P w d kvs) ∧ EKs c H es kvs
section
variable {κ : Type} {c : KC κ} {P : Program} {w : World} {H H' : Hp} {d : Addr} {es : List (κ × Int)}
theorem DN.rd (x : DN P w c H d es) : RN P w c H d es := let ⟨k, e, r⟩ := x; ⟨k, .inl e, r⟩
theorem FN.rd (x : FN P w c H d es) : RN P w c H d es := let ⟨o, k, e, r⟩ := x; ⟨k, .inr ⟨o, e⟩, r⟩
theorem DN.same (x : DN P w c H d es) (s : Same H H') : DN P w c H' d es := let ⟨k, e, r⟩ := x; ⟨k, s _ _ e, r.keep (Same.tups s)⟩
theorem FN.same (x : FN P w c H d es) (s : Same H H') : FN P w c H' d es := let ⟨o, k, e, r⟩ := x; ⟨o, k, s _ _ e, r.keep (Same.tups s)⟩
theorem DN.keep (x : DN P w c H d es) (e : H' d = H d) (s : STup H H') : DN P w c H' d es := let ⟨k, e', r⟩ := x; ⟨k, e.trans e', r.keep s⟩
end
end K35
/-! text RD2 -/
set_option Elab.async false
set_option linter.all false
set_option maxRecDepth 100000
set_option maxHeartbeats 4000000
namespace K35
open PySem PySem.Spec PyProof.Rows L2
section
variable {κ : Type} [DecidableEq κ] {c : KC κ} {X : Cx} {pins : List (Addr × Obj)} {σ : L2.St} {H : Hp} {s : Shared} {d a : Addr} {es : List (κ × Int)} {k : κ} {A : Around} {E : Value → Shared → Prop}

structure Wf (c : KC κ) (X : Cx) (H : Hp) (s : Shared) (d : Addr) (es : List (κ × Int)) (kvs : List Ent) (xs : List (NK × Addr × Value)) : Prop where
  ek : EKs c H es kvs
  ne : NEs kvs xs
  of : s.heap.DictOfH (nestedKind X.prog X.w) d xs
  sz : xs.length ≤ sizeLine
  low : (d == sysModules) = false
theorem RN.wf (I : Inv X pins σ H s) (x : RN X.prog X.w c H d es) : ∃ kvs xs, Rd H d (hoN X.prog X.w d kvs) ∧ Wf c X H s d es kvs xs := by
  obtain ⟨kvs, r, ek⟩ := x
  obtain ⟨z, low, o, ho, ex, esx, ep, xs, h1, h2, nd, ne⟩ := phi_of I.hok r
  exact ⟨kvs, xs, r, ek, ne, ⟨o, esx, ep, ho, ex, h1, h2, ek_is I.hok ek ne, nd⟩, by rw [← ne_len ne]; exact z, low⟩
theorem room_nest {A : Around} (hu : A.units + 64 < cLine) (P : Program) (w : World) : (nestedKind P w).room A.in1 := by
  show A.units + 1 + 8 < cLine
  omega
theorem room_nest2 {A : Around} (hu : A.units + 64 < cLine) (P : Program) (w : World) : (nestedKind P w).room A.in1.in1 := by
  show A.units + 1 + 1 + 8 < cLine
  omega

/-- d.get(k, z) -/
theorem n_get2 {z : Int} {r : Value} {Q : Value → Shared → Prop} (hu : A.units + 64 < cLine) (I : Inv X pins σ H s) (x : RN X.prog X.w c H d es) (hk : c.at_ H a k) (rz : RelV (.int z) r)
    (h : ∀ w' s', Inv X pins σ H s' → RelV (.int ((getE es k).getD z)) w' → Q w' s') : wpAny (model X.prog X.w) A (call (.builtin "dict.get") [.ref d, .ref a, r]) Q E s := by
  obtain ⟨kvs, xs, _, W⟩ := x.wf I
  refine call_meetsIn PySem.F.slot_dict_get W.of.typeIs PySem.F.entry_dict_get (PySem.F.args_dict_get_3 _ _ _) (meetsH_dict_get_default (nestedKind X.prog X.w) d a W.low r) ⟨room_nest hu _ _, c.enc k, xs, c.is I.hok hk, W.of, h _ _ (I.tok _) ?_⟩
  rcases ek_at W.ek W.ne k with ⟨g1, g2⟩ | ⟨n, t, b, g1, g2⟩
  · rw [g1, g2]
    exact rz
  · rw [g1, g2]
    exact ⟨t, rfl⟩
/-- d[k], there -/
theorem n_getItem {n : Int} {Q : Value → Shared → Prop} (hu : A.units + 64 < cLine) (I : Inv X pins σ H s) (x : RN X.prog X.w c H d es) (hk : c.at_ H a k) (hn : getE es k = some n)
    (h : ∀ w' s', Inv X pins σ H s' → RelV (.int n) w' → Q w' s') : wpAny (model X.prog X.w) A (getItem (.ref d) (.ref a)) Q E s := by
  obtain ⟨kvs, xs, _, W⟩ := x.wf I
  rcases ek_at W.ek W.ne k with ⟨g1, g2⟩ | ⟨m, t, b, g1, g2⟩
  · rw [hn] at g1
    cases g1
  · rw [hn] at g1
    cases g1
    exact wpAny_getItem_heap (room_nest hu _ _) (c.is I.hok hk) W.of g2 (h _ _ (I.tok _) ⟨t, rfl⟩)
/-- k in d -/
theorem n_in {Q : Value → Shared → Prop} (hu : A.units + 64 < cLine) (I : Inv X pins σ H s) (x : RN X.prog X.w c H d es) (hk : c.at_ H a k)
    (h : ∀ s', Inv X pins σ H s' → Q (.bool (getE es k).isSome) s') : wpAny (model X.prog X.w) A (compareOp .In (.ref a) (.ref d)) Q E s := by
  obtain ⟨kvs, xs, _, W⟩ := x.wf I
  refine wpAny_in_heap (room_nest hu _ _) (c.is I.hok hk) W.low W.of ?_
  have e : (atKey xs (c.enc k)).isSome = (getE es k).isSome := by
    rcases ek_at W.ek W.ne k with ⟨g1, g2⟩ | ⟨m, t, b, g1, g2⟩
    · rw [g1, g2]
      rfl
    · rw [g1, g2]
      rfl
  rw [e]
  exact h _ (I.tok _)
/-- the heap behind a change of d -/
theorem n_write {h' : Heap} {t' : Nat} {kvs kvs' : List Ent} {xs' : List (NK × Addr × Value)} (I : Inv X pins σ H s) (e : H d = some (hoN X.prog X.w d kvs)) (low : (d == sysModules) = false) (hs : Heap.SameBut d s.heap h')
    (of : h'.DictOfH (nestedKind X.prog X.w) d xs') (ne : NEs kvs' xs') (sz : kvs'.length ≤ sizeLine) : Inv X pins σ (upd H d (hoN X.prog X.w d kvs')) { s with heap := h', toks := t' } := by
  obtain ⟨q, es, ep, hq, h2, h3, h4, _, h5⟩ := of
  exact d_write I (by rw [e]; exact True.intro) hs ⟨q, hq⟩ (hoN_ok ⟨sz, low, q, hq, h2, es, ep, xs', h3, h4, h5, ne⟩)
theorem stup_upd {H : Hp} {d : Addr} {o o' : HO} (e : H d = some o) (no : ∀ xs, o ≠ .tup xs) : STup H (upd H d o') := fun b xs q => by
  rw [upd_ne (fun z => by rw [z, e] at q; exact no xs (Option.some.inj q))]
  exact q
/-- d[k] = v -/
theorem n_setItem {n : Int} {r : Value} {Q : Unit → Shared → Prop} (hu : A.units + 64 < cLine) (I : Inv X pins σ H s) (x : DN X.prog X.w c H d es) (hk : c.at_ H a k) (rn : RelV (.int n) r) (hl : es.length < sizeLine)
    (h : ∀ o s', Inv X pins σ (upd H d o) s' → DN X.prog X.w c (upd H d o) d (putE es k n) → Q () s') : wpAny (model X.prog X.w) A (setItem (.ref d) (.ref a) r) Q E s := by
  obtain ⟨kvs, e, ek⟩ := x
  obtain ⟨kvs1, xs, r1, W⟩ := RN.wf (c := c) (es := es) I ⟨kvs, .inl e, ek⟩
  obtain ⟨z, low, o, ho, ex, esx, ep, xs, h1, h2, nd, ne⟩ := phi_of I.hok (.inl e)
  have of : s.heap.DictOfH (nestedKind X.prog X.w) d xs := ⟨o, esx, ep, ho, ex, h1, h2, ek_is I.hok ek ne, nd⟩
  obtain ⟨t, rfl⟩ := rn
  refine wpAny_setItem_heap (hsz := by rw [← ne_len ne]; exact z) (room_nest hu _ _) (c.is I.hok hk) of fun h' of' hs => ?_
  obtain ⟨kvs', i1, i2⟩ := ek_put ek ne k hk n t
  have sz : kvs'.length ≤ sizeLine := by
    rw [← ek_len i1]
    have := length_putE es k n
    omega
  exact h _ _ (n_write I e low hs of' i2 sz) ⟨kvs', upd_same, i1.keep (stup_upd e fun _ z => nomatch z)⟩
/-- del d[k] -/
theorem n_delItem {Q : Unit → Shared → Prop} (hu : A.units + 64 < cLine) (I : Inv X pins σ H s) (x : DN X.prog X.w c H d es) (hk : c.at_ H a k) (hn : (getE es k).isSome = true)
    (h : ∀ o s', Inv X pins σ (upd H d o) s' → DN X.prog X.w c (upd H d o) d (delE es k) → Q () s') : wpAny (model X.prog X.w) A (delItem (.ref d) (.ref a)) Q E s := by
  obtain ⟨kvs, e, ek⟩ := x
  obtain ⟨z, low, o, ho, ex, esx, ep, xs, h1, h2, nd, ne⟩ := phi_of I.hok (.inl e)
  have of : s.heap.DictOfH (nestedKind X.prog X.w) d xs := ⟨o, esx, ep, ho, ex, h1, h2, ek_is I.hok ek ne, nd⟩
  obtain ⟨p, hp⟩ : ∃ p, atKey xs (c.enc k) = some p := by
    rcases ek_at ek ne k with ⟨g1, _⟩ | ⟨m, t, b, _, g2⟩
    · rw [g1] at hn
      cases hn
    · exact ⟨_, g2⟩
  refine wpAny_delItem_heap (hsz := by rw [← ne_len ne]; exact z) (room_nest hu _ _) (c.is I.hok hk) low of hp fun h' of' hs => ?_
  obtain ⟨kvs', i1, i2⟩ := ek_del ek ne k
  have sz : kvs'.length ≤ sizeLine := by
    rw [← ek_len i1]
    have := length_delE es k
    rw [ek_len ek] at this
    omega
  exact h _ _ (n_write I e low hs of' i2 sz) ⟨kvs', upd_same, i1.keep (stup_upd e fun _ z => nomatch z)⟩
/-- len(d) -/
theorem n_len {Q : Value → Shared → Prop} (I : Inv X pins σ H s) (x : RN X.prog X.w c H d es) (h : ∀ t s', Inv X pins σ H s' → Q (.int es.length t) s') : wpAny (model X.prog X.w) A (call (.builtin "len") [.ref d]) Q E s := by
  obtain ⟨kvs, xs, _, W⟩ := x.wf I
  have el : es.length = xs.length := (ek_len W.ek).trans (ne_len W.ne)
  have z := W.sz
  rw [sizeLine_eq] at z
  obtain ⟨esx, ep, hr, hs, _⟩ := W.of.raw
  refine call_len_slot (n := (es.length : Int)) W.of.typeIs PySem.F.slot_dict_len (fun Q' hq => call_len_raw W.low hr ?_) (by omega) (by omega) ?_
  · rw [hs, ← el]
    exact hq
  · exact h _ _ (I.tok _)
end
end K35
/-! text RD3 -/
set_option Elab.async false
set_option linter.all false
set_option maxRecDepth 100000
set_option maxHeartbeats 4000000
namespace K35
open PySem PySem.Spec PyProof.Rows L2
/-! readings and rules -/
section
variable {κ : Type} [DecidableEq κ]
/-- {} whose keys will be such -/
def tNNew (P : Program) (w : World) (c : KC κ) : TE := fun _ H Q => ∀ p o, H p = none → DN P w c (upd H p o) p [] → (∀ xs, o ≠ .tup xs) → Q (.ref p) (upd H p o)
/-- d.get(k, z) -/
def tNGet2 (P : Program) (w : World) (c : KC κ) (td ty tx : TE) : TE := fun σ H Q => td σ H fun x H1 => ∃ d, x = .ref d ∧ (∃ es : List (κ × Int), RN P w c H1 d es) ∧ ty σ H1 fun y H2 => tx σ H2 fun z H3 =>
  ∃ a k es i, y = .ref a ∧ c.at_ H3 a k ∧ RN P w c H3 d es ∧ z = .int i ∧ Q (.int ((getE es k).getD i)) H3
/-- d[k] -/
def tNGet (P : Program) (w : World) (c : KC κ) (td ty : TE) : TE := fun σ H Q => td σ H fun x H1 => ty σ H1 fun y H2 => ∃ d a k es n, x = .ref d ∧ y = .ref a ∧ c.at_ H2 a k ∧ RN P w c H2 d es ∧ getE es k = some n ∧ Q (.int n) H2
/-- k in d -/
def tNIn (P : Program) (w : World) (c : KC κ) (ty td : TE) : TE := fun σ H Q => ty σ H fun y H1 => td σ H1 fun x H2 => ∃ d a k es, x = .ref d ∧ y = .ref a ∧ c.at_ H2 a k ∧ RN P w c H2 d es ∧ Q (.bl (getE es k).isSome) H2
/-- d[k] = v -/
def sNPut (P : Program) (w : World) (c : KC κ) (td ty tv : TE) : TS := fun D σ H => tv σ H fun v H1 => td σ H1 fun x H2 => ty σ H2 fun y H3 => ∃ d a k es n, x = .ref d ∧ y = .ref a ∧ v = .int n ∧ c.at_ H3 a k ∧ DN P w c H3 d es ∧ es.length < sizeLine ∧
  ∀ o, DN P w c (upd H3 d o) d (putE es k n) → D.nx σ (upd H3 d o)
/-- del d[k] -/
def sNDel (P : Program) (w : World) (c : KC κ) (td ty : TE) : TS := fun D σ H => td σ H fun x H1 => ty σ H1 fun y H2 => ∃ d a k es, x = .ref d ∧ y = .ref a ∧ c.at_ H2 a k ∧ DN P w c H2 d es ∧ (getE es k).isSome = true ∧
  ∀ o, DN P w c (upd H2 d o) d (delE es k) → D.nx σ (upd H2 d o)

variable {c : KC κ} {X : Cx} {o i e f value : Expr} {pos pos' tpos apos cpos : Pos} {td ty tv tx : TE}
theorem n_at {pins : List (Addr × Obj)} {σ : L2.St} {H : Hp} {s : Shared} {d : Addr} {es : List (κ × Int)} (I : Inv X pins σ H s) (x : RN X.prog X.w c H d es) :
    s.TypeIs (.ref d) "dict" ∧ (∀ b, Value.ref d = .ref b → ∃ ob, s.heap.get? b = some ob ∧ ob.dict = none) := by
  obtain ⟨kvs, xs, _, W⟩ := x.wf I
  refine ⟨W.of.typeIs, fun b q => ?_⟩
  cases q
  obtain ⟨ob, _, _, h1, h2, _⟩ := W.of
  exact ⟨ob, h1, h2.2.1⟩
theorem pe_nnew : PE X (.Dict [] [] pos) (tNNew X.prog X.w c) := ⟨fun pins s σ H Q I h => by
  have nw : phiN X.prog X.w s.heap.objs.size [] (s.heap.push { cls := .type "dict", data := .dict #[] }) :=
    ⟨Nat.zero_le _, beq_eq_false_iff_ne.mpr (Ne.symm (Nat.ne_of_lt I.big)), _, Heap.get?_push_size _ rfl, ⟨rfl, rfl, rfl⟩, #[], 0, [], rfl, rfl, List.nodup_nil, .nil⟩
  refine wpAny_Dict_empty ⟨.ref s.heap.objs.size, _, I.laid (a := s.heap.objs.size) (o := hoN X.prog X.w s.heap.objs.size []) (t' := s.toks) (fun _ _ q => Heap.get?_push_of_some _ q) (Nat.le_refl _) (hoN_ok nw), rfl, ?_⟩
  exact h _ _ (I.hok.fresh (Nat.le_refl _)) ⟨[], upd_same, .nil⟩ fun _ z => nomatch z⟩
theorem pe_nget2 (hu : X.A.units + 64 < cLine) (ho : PE X o td) (he : PE X e ty) (hf : PE X f tx) (m : M2 X o "get" apos e f cpos) : PE X (.Call (.Attribute o "get" apos) [e, f] [] cpos) (tNGet2 X.prog X.w c td ty tx) := by
  refine ⟨fun pins s σ H Q I h => ?_⟩
  refine wpAny_Call_method m.base m.few m.line PySem.F.plainAttrs_dict PySem.F.slot_dict_get PySem.F.type_dict_get (thn (ho.run pins s σ H _ I h) fun u s1 ⟨x, H1, I1, rx, d, ex, ⟨es0, x0⟩, q1⟩ => ?_)
  subst ex
  obtain rfl : u = Value.ref d := rx
  obtain ⟨t1, t2⟩ := n_at I1 x0
  refine ⟨t1, t2, ?_⟩
  rw [m.trees]
  refine Calls.callWith_builtin rfl (Calls.evalArgs_plain (Calls.spliced_cons (thn (he.run pins s1 σ H1 _ I1 q1) fun iv s2 ⟨y, H2, I2, ry, q2⟩ =>
    Calls.spliced_cons (thn (hf.run pins s2 σ H2 _ I2 q2) fun fv s3 ⟨z, H3, I3, rz, a, k, es, n, ey, hk, x3, ez, q3⟩ => Calls.spliced_nil ?_))))
  subst ey ez
  obtain rfl : iv = Value.ref a := ry
  exact n_get2 hu I3 x3 hk rz fun w' s4 I4 rw' => ⟨_, H3, I4, rw', q3⟩
theorem pe_nget (hu : X.A.units + 64 < cLine) (ho : PE X o td) (hi : PE X i ty) (hs : NoSl i) : PE X (.Subscript o i pos) (tNGet X.prog X.w c td ty) := by
  refine ⟨fun pins s σ H Q I h => ?_⟩
  refine subD_of PySem.F.slot_dict_getitem.lookup hs (thn (ho.run pins s σ H _ I h) fun u s1 ⟨x, H1, I1, rx, q1⟩ => thn (hi.run pins s1 σ H1 _ I1 q1) fun iv s2 ⟨y, H2, I2, ry, d, a, k, es, n, ex, ey, hk, x2, hn, q2⟩ => ?_)
  subst ex ey
  obtain rfl : u = Value.ref d := rx
  obtain rfl : iv = Value.ref a := ry
  exact ⟨(n_at I2 x2).1, n_getItem hu I2 x2 hk hn fun w' s3 I3 rw' => ⟨.int n, H2, I3, rw', q2⟩⟩
theorem pc_nin (hu : X.A.units + 64 < cLine) (hi : PE X i ty) (ho : PE X o td) : PC X .In i o (tNIn X.prog X.w c ty td) := by
  refine ⟨fun pins s σ H Q I h => ?_⟩
  refine thn (hi.run pins s σ H _ I h) fun iv s1 ⟨y, H1, I1, ry, q1⟩ => thn (ho.run pins s1 σ H1 _ I1 q1) fun u s2 ⟨x, H2, I2, rx, d, a, k, es, ex, ey, hk, x2, q2⟩ => ?_
  subst ex ey
  obtain rfl : u = Value.ref d := rx
  obtain rfl : iv = Value.ref a := ry
  exact n_in hu I2 x2 hk fun s3 I3 => ⟨.bl _, H2, I3, rfl, q2⟩
theorem ps_nput (hu : X.A.units + 64 < cLine) (ho : PE X o td) (hi : PE X i ty) (hv : PE X value tv) (hs : swapsWith value (some (.Subscript o i pos')) pos.line X.env = pure false) :
    PS X (.Assign [.Subscript o i pos'] value pos) (sNPut X.prog X.w c td ty tv) := by
  refine ⟨fun pins s σ H D I h => ?_⟩
  refine wpAny_Assign_Subscript (thn (hv.run pins s σ H _ I h) fun r s1 ⟨v, H1, I1, rv, q1⟩ => thn (ho.run pins s1 σ H1 _ I1 q1) fun u s2 ⟨x, H2, I2, rx, q2⟩ => thn (hi.run pins s2 σ H2 _ I2 q2) fun iv s3 ⟨y, H3, I3, ry, d, a, k, es, n, ex, ey, ev, hk, x3, hl, q3⟩ => ?_) hs
  subst ex ey ev
  obtain rfl : u = Value.ref d := rx
  obtain rfl : iv = Value.ref a := ry
  exact n_setItem hu I3 x3 hk rv hl fun o s4 I4 x4 => ⟨σ, _, I4, q3 o x4⟩
theorem ps_ndel (hu : X.A.units + 64 < cLine) (ho : PE X o td) (hi : PE X i ty) : PS X (.Delete [.Subscript o i tpos] pos) (sNDel X.prog X.w c td ty) := by
  refine ⟨fun pins s σ H D I h => ?_⟩
  refine wpAny_Delete (wpAny_deleteEach_cons (wpAny_delete_Subscript (thn (ho.run pins s σ H _ I h) fun u s1 ⟨x, H1, I1, rx, q1⟩ => thn (hi.run pins s1 σ H1 _ I1 q1) fun iv s2 ⟨y, H2, I2, ry, d, a, k, es, ex, ey, hk, x2, hn, q2⟩ => ?_)))
  subst ex ey
  obtain rfl : u = Value.ref d := rx
  obtain rfl : iv = Value.ref a := ry
  exact n_delItem hu I2 x2 hk hn fun o s3 I3 x3 => wpAny_deleteEach_nil ⟨σ, _, I3, q2 o x3⟩
/-- len(d) -/
theorem call_lenN : CallR X (.builtin "len") (fun xs H Q => ∃ (d : Addr) (es : List (κ × Int)), xs = [V.ref d] ∧ RN X.prog X.w c H d es ∧ Q (.int es.length) H) := by
  intro pins s σ H xs us Q I r h
  obtain ⟨d, es, rfl, x, q⟩ := h
  obtain ⟨u, rfl, ru⟩ := vals1 r
  cases ru
  exact n_len I x fun t s' I' => ⟨.int es.length, H, I', ⟨t, rfl⟩, q⟩
end
/-! what may be written is made to stand for good -/
section
variable {X : Cx} {e : Expr} {te : TE} {st : List Stmt} {t : TS}
def tFrz (t : TE) : TE := fun σ H Q => t σ H fun v H1 => ∃ d u, H1 d = some u ∧ Mut (some u) ∧ ∀ od, Q v (upd H1 d (.frz od u))
theorem pe_frz (h : PE X e te) : PE X e (tFrz te) := by
  refine ⟨fun pins s σ H Q I hw => ?_⟩
  refine thn (h.run pins s σ H _ I hw) fun v s1 ⟨x, H1, I1, r, d, u, hd, mu, q⟩ => ?_
  obtain ⟨od, I2⟩ := I1.lock hd mu
  exact ⟨x, _, I2, r, q od⟩
def sFrz (t : TS) : TS := fun D σ H => ∃ d u, H d = some u ∧ Mut (some u) ∧ ∀ od, t D σ (upd H d (.frz od u))
theorem pss_frz (h : PSs X st t) : PSs X st (sFrz t) := by
  refine ⟨fun pins s σ H D I hw => ?_⟩
  obtain ⟨d, u, hd, mu, q⟩ := hw
  obtain ⟨od, I2⟩ := I.lock hd mu
  exact h.run pins s σ _ D I2 (q od)
end
theorem DN.frz {κ : Type} {P : Program} {w : World} {c : KC κ} {H : Hp} {d : Addr} {es : List (κ × Int)} (x : DN P w c H d es) : ∃ u, H d = some u ∧ Mut (some u) ∧ ∀ od, FN P w c (upd H d (.frz od u)) d es :=
  let ⟨kvs, e, ek⟩ := x
  ⟨_, e, True.intro, fun od => ⟨od, kvs, upd_same, ek.keep (stup_upd e fun _ z => nomatch z)⟩⟩
end K35
/-! text RD4 -/
set_option Elab.async false
set_option linter.all false
set_option maxRecDepth 100000
set_option maxHeartbeats 4000000
namespace K35
open PySem PySem.Spec PyProof.Rows L2
/-! walks over a dict that stands for good -/
def FNo {κ : Type} (P : Program) (w : World) (c : KC κ) (H : Hp) (d : Addr) (od : Obj) (es : List (κ × Int)) : Prop := ∃ kvs, H d = some (.frz od (hoN P w d kvs)) ∧ EKs c H es kvs
section
variable {κ : Type} [DecidableEq κ] {c : KC κ}
theorem FN.o {P : Program} {w : World} {H : Hp} {d : Addr} {es : List (κ × Int)} (x : FN P w c H d es) : ∃ od, FNo P w c H d od es := let ⟨o, k, q⟩ := x; ⟨o, k, q⟩
theorem FNo.f {P : Program} {w : World} {H : Hp} {d : Addr} {od : Obj} {es : List (κ × Int)} (x : FNo P w c H d od es) : FN P w c H d es := let ⟨k, q⟩ := x; ⟨od, k, q⟩
theorem FNo.same {P : Program} {w : World} {H H' : Hp} {d : Addr} {od : Obj} {es : List (κ × Int)} (x : FNo P w c H d od es) (s : Same H H') : FNo P w c H' d od es := let ⟨k, e, r⟩ := x; ⟨k, s _ _ e, r.keep (Same.tups s)⟩
theorem FNo.keep {P : Program} {w : World} {H H' : Hp} {d : Addr} {od : Obj} {es : List (κ × Int)} (x : FNo P w c H d od es) (e : H' d = H d) (s : STup H H') : FNo P w c H' d od es := let ⟨k, e', r⟩ := x; ⟨k, e.trans e', r.keep s⟩

theorem ek_ent {H : Hp} {es : List (κ × Int)} {kvs : List Ent} {xs : List (NK × Addr × Value)} (r : EKs c H es kvs) (q : NEs kvs xs) {i : Nat} {k : κ} {n : Int} (e : es[i]? = some (k, n)) :
    ∃ a t, xs[i]? = some (c.enc k, a, .int n t) ∧ c.at_ H a k := by
  obtain ⟨p, hp, h1, h2, h3⟩ := paired_get r e
  obtain ⟨x, hx, x1, x2, x3⟩ := paired_get q hp
  rw [h3] at x3
  obtain ⟨t, x3⟩ := x3
  refine ⟨x.2.1, t, ?_, by rw [← x2]; exact h2⟩
  rw [hx, ← h1, x1]
  exact congrArg some (Prod.ext rfl (Prod.ext rfl x3))
theorem fn_at {X : Cx} {pins : List (Addr × Obj)} {σ : L2.St} {H : Hp} {s : Shared} {d : Addr} {od : Obj} {es : List (κ × Int)} (I : Inv X pins σ H s) (x : FNo X.prog X.w c H d od es) :
    (d == sysModules) = false ∧ s.heap.get? d = some od ∧ od.ExactDict ∧ ∃ (esx : Array DictEntry) (ep : Nat), od.data = .dict esx ep ∧ esx.size = es.length ∧
      ∀ (i : Nat) (k : κ) (n : Int), es[i]? = some (k, n) → ∃ (en : DictEntry) (a : Addr) (t : Tok), esx[i]? = some en ∧ en.key = .ref a ∧ en.val = .int n t ∧ c.at_ H a k := by
  obtain ⟨kvs, e, ek⟩ := x
  obtain ⟨hd, ph, _, _⟩ := I.hok d _ e
  obtain ⟨z, low, o, ho, ex, esx, ep, xs, h1, h2, nd, ne⟩ := ph
  rw [hd] at ho
  cases ho
  refine ⟨low, hd, ex, esx, ep, h1, ?_, fun i k n q => ?_⟩
  · rw [size_of_entries h2, ← ne_len ne, ← ek_len ek]
  · obtain ⟨a, t, hx, ha⟩ := ek_ent ek ne q
    have y := entry_at h2 i
    rw [hx] at y
    exact ⟨_, a, t, y, rfl, rfl, ha⟩

/-- the keys, in their order: the key's own tuple -/
def ItNK (P : Program) (w : World) (c : KC κ) (d : Addr) (od : Obj) (es : List (κ × Int)) : It :=
  ⟨fun i H => FNo P w c H d od es ∧ i < es.length, fun i H x H' => H' = H ∧ ∃ k n a, es[i]? = some (k, n) ∧ x = .ref a ∧ c.at_ H a k, fun i H => FNo P w c H d od es ∧ es.length ≤ i⟩
/-- the pairs, each a new tuple -/
def ItNI (P : Program) (w : World) (c : KC κ) (d : Addr) (od : Obj) (es : List (κ × Int)) : It :=
  ⟨fun i H => FNo P w c H d od es ∧ i < es.length, fun i H x H' => ∃ T k n a, es[i]? = some (k, n) ∧ x = .ref T ∧ H T = none ∧ H' = upd H T (.tup [.ref a, .int n]) ∧ c.at_ H a k, fun i H => FNo P w c H d od es ∧ es.length ≤ i⟩
variable {P : Program} {w : World} {K : PySem.W.Frag} {tg : Expr} {d : Addr} {o : Obj} {esx : Array DictEntry} {ep : Nat} {es : List (κ × Int)}
theorem turn_nkeys (it : Addr) (hod : o.data = .dict esx ep) : Turn P w K tg (ItNK P w c d o es) [it] it (fun i h => h.IsKeyIter it d i es.length ep) where
  mem := by simp
  obj := fun i h st b hb => by
    obtain rfl : b = it := by simpa using hb
    obtain ⟨oi, e, _, dd⟩ := st
    exact ⟨oi, e, fun v z => by rw [dd] at z; cases z⟩
  keep := fun i h h' st k => st.at fun oi e => k it (by simp) oi e
  item := by
    intro X hP hw hK hc i pins s σ H E I hf st hg
    subst hP hw hK
    obtain ⟨x, hi⟩ := hg
    obtain ⟨f0, f1, f2, f3, f4, f5⟩ := hf it (by simp)
    obtain ⟨low, hgd, hx, esx', ep', hdt, hsz, ent⟩ := fn_at I x
    obtain ⟨rfl, rfl⟩ := dict_ep hod hdt
    obtain ⟨en, a, t, hen, hkey, hval, ha⟩ := ent i es[i].1 es[i].2 (List.getElem?_eq_getElem hi)
    refine next_key_item st hgd hdt hsz hen fun h' st' sb => ?_
    have I1 : Inv X pins σ H { s with heap := h' } := I.turned (t' := s.toks) (fun b ob hb e => (sb.2 b hb).trans e) f0 f1 f3 f4 f5
    obtain ⟨oi, e, cc, dd⟩ := id st'
    exact ⟨en.key, rfl, go_of (s := { s with heap := h' }) e cc dd (by decide) ⟨.ref a, H, I1, hkey, ⟨rfl, _, _, a, List.getElem?_eq_getElem hi, rfl, ha⟩, st', fun b hb => (hf b hb).1⟩⟩
  done := by
    intro X hP hw hK hc i pins s σ H E I hf st hg
    subst hP hw hK
    obtain ⟨x, hi⟩ := hg
    obtain ⟨f0, f1, f2, f3, f4, f5⟩ := hf it (by simp)
    obtain ⟨low, hgd, hx, esx', ep', hdt, hsz, ent⟩ := fn_at I x
    obtain ⟨rfl, rfl⟩ := dict_ep hod hdt
    exact next_key_end (I.ok.hd hc) st hgd hdt hsz hi fun h' eb => ⟨rfl, I.turned (t' := s.toks) (fun b ob hb e => eb b ob hb e) f0 f1 f3 f4 f5⟩
  self := fun A i s Q E st h => by
    refine wpAny_pyIter_slot st.typeIs F.slot_dict_keyiterator_iter (wpAny_call_entry F.slot_dict_keyiterator_iter st.typeIs F.entry_dict_keyiterator_iter ?_ (F.args_dict_keyiterator_iter_1 _))
    exact wpAny_pure ⟨_, rfl, "dict_keyiterator", _, st.typeIs, F.slot_dict_keyiterator_next.lookup, h⟩
theorem turn_nitems {elts : List Expr} {kk : Nat} {tpos : Pos} (it : Addr) (hod : o.data = .dict esx ep) :
    Turn P w K (.Tuple elts kk tpos) (ItNI P w c d o es) [it] it (fun i h => ∃ ok ov, IsItemIter h it d i es.length ep ok ov) where
  mem := by simp
  obj := fun i h st b hb => by
    obtain rfl : b = it := by simpa using hb
    obtain ⟨ok, ov, e⟩ := st
    exact ⟨_, e, fun v z => nomatch z⟩
  keep := fun i h h' st k => let ⟨ok, ov, e⟩ := st; ⟨ok, ov, k it (by simp) _ e⟩
  item := by
    intro X hP hw hK hc i pins s σ H E I hf st hg
    subst hP hw hK
    obtain ⟨x, hi⟩ := hg
    obtain ⟨low, hgd, hx, esx', ep', hdt, hsz, ent⟩ := fn_at I x
    obtain ⟨rfl, rfl⟩ := dict_ep hod hdt
    obtain ⟨en, a, t, hen, hkey, hval, ha⟩ := ent i es[i].1 es[i].2 (List.getElem?_eq_getElem hi)
    obtain ⟨ok, ov, he⟩ := st
    have hlt : it < s.heap.objs.size := Heap.lt_size he
    have hii : i < esx'.size := by rw [hsz]; exact hi
    have een : esx'[i] = en := by
      rw [Array.getElem?_eq_getElem hii] at hen
      exact Option.some.inj hen
    rw [← hsz] at he
    refine wpAny_pyNext_items_item_raw he ⟨o, hgd, hx, hdt⟩ hii fun h' ho hT hz hk => ?_
    rw [een, hkey, hval] at hT
    refine ⟨_, rfl, wpAny_letOwnedTupleGo_items (s := { s with heap := h' }) ho fun h'' he' sb => ?_⟩
    have hT2 : h''.get? s.heap.objs.size = some { cls := .type "tuple", data := .seq #[.ref a, .int es[i].2 t] } := (sb.2 _ (Nat.ne_of_gt hlt)).trans hT
    have new : ObjOk X.prog X.w (upd H s.heap.objs.size (.tup [.ref a, .int es[i].2])) h'' s.heap.objs.size (.tup [.ref a, .int es[i].2]) :=
      ⟨by show 2 ≤ sizeLine; decide, [.ref a, .int es[i].2 t], .cons rfl (.cons ⟨t, rfl⟩ .nil), ⟨_, hT2, rfl, _, rfl⟩⟩
    have I1 : Inv X pins σ (upd H s.heap.objs.size (.tup [.ref a, .int es[i].2])) { s with heap := h'' } :=
      I.turnedNew (t' := s.toks) (ch := [it]) (fun b ob hb e => (sb.2 b (by simpa using hb)).trans (hk b ob (by simpa using hb) e)) hf (Nat.le_refl _) new
    refine ⟨.ref s.heap.objs.size, _, I1, rfl, ⟨_, es[i].1, es[i].2, a, List.getElem?_eq_getElem hi, rfl, I.hok.fresh (Nat.le_refl _), rfl, ha⟩, ⟨esx'[i].key, esx'[i].val, ?_⟩, fun b hb => ?_⟩
    · rw [← hsz]; exact he'
    · obtain rfl : b = it := by simpa using hb
      rw [upd_ne (Nat.ne_of_lt hlt)]
      exact (hf b (by simp)).1
  done := by
    intro X hP hw hK hc i pins s σ H E I hf st hg
    subst hP hw hK
    obtain ⟨x, hi⟩ := hg
    obtain ⟨f0, f1, f2, f3, f4, f5⟩ := hf it (by simp)
    obtain ⟨low, hgd, hx, esx', ep', hdt, hsz, ent⟩ := fn_at I x
    obtain ⟨rfl, rfl⟩ := dict_ep hod hdt
    obtain ⟨ok, ov, he⟩ := st
    rw [← hsz] at he
    exact wpAny_pyNext_items_end_raw (I.ok.hd hc) he ⟨o, hgd, hx, hdt⟩ (by omega) fun h' eb => ⟨rfl, I.turned (t' := s.toks) (fun b ob hb e => eb b ob hb e) f0 f1 f3 f4 f5⟩
  self := fun A i s Q E st h => let ⟨_, _, e⟩ := st; PySem.W.kcp_self e h
end
section
variable {κ : Type} [DecidableEq κ] {c : KC κ} {X : Cx} {tg e : Expr} {td : TE} {apos cpos : Pos}
def iNKeys (P : Program) (w : World) (c : KC κ) (td : TE) : TI := fun σ H R => td σ H fun x H1 => ∃ d o es, x = .ref d ∧ FNo P w c H1 d o es ∧ R (ItNK P w c d o es) H1
def iNItems (P : Program) (w : World) (c : KC κ) (td : TE) : TI := fun σ H R => td σ H fun x H1 => ∃ d o es, x = .ref d ∧ FNo P w c H1 d o es ∧ R (ItNI P w c d o es) H1
theorem pi_nkeys (he : PE X e td) : PI X tg e (iNKeys X.prog X.w c td) := by
  refine ⟨fun pins s σ H R I h => ?_⟩
  refine thn (he.run pins s σ H _ I h) fun u s1 ⟨x, H1, I1, rx, d, o, es, ex, fx, q⟩ => ?_
  subst ex
  obtain rfl : u = Value.ref d := rx
  obtain ⟨low, hgd, hx, esx, ep, hdt, hsz, _⟩ := fn_at I1 fx
  refine iter_keys low hgd hx hdt (pi_one (tk := s1.toks) I1 _ (turn_nkeys _ hdt) ⟨_, Heap.get?_push_size _ rfl, rfl, ?_⟩ q)
  rw [hsz] <;> rfl
theorem pi_nitems {elts : List Expr} {kk : Nat} {tpos : Pos} (he : PE X e td) (hbase : attributeBase e "items" X.env (eval e X.env) = eval e X.env := by rfl) (hline : (apos.endLine == cpos.line) = true := by rfl) :
    PI X (.Tuple elts kk tpos) (.Call (.Attribute e "items" apos) [] [] cpos) (iNItems X.prog X.w c td) := by
  refine ⟨fun pins s σ H R I h => ?_⟩
  refine wpAny_Call_method (T := "dict") (id := "dict.items") hbase rfl hline F.plainAttrs_dict F.slot_dict_items F.type_dict_items (thn (he.run pins s σ H _ I h) fun u s1 ⟨x, H1, I1, rx, d, o, es, ex, fx, q⟩ => ?_)
  subst ex
  obtain rfl : u = Value.ref d := rx
  obtain ⟨low, hgd, hx, esx, ep, hdt, hsz, _⟩ := fn_at I1 fx
  have raw : s1.heap.DictRaw d esx ep := ⟨o, hgd, hx, hdt⟩
  have tyD : s1.TypeIs (.ref d) "dict" := ⟨o, hgd, hx.1⟩
  refine ⟨tyD, fun b q => by cases q; exact ⟨o, hgd, hx.2.1⟩, ?_⟩
  have I2 : Inv X pins σ H1 { s1 with heap := s1.heap.push { cls := .type "dict_items", data := .fields #[.ref d] } } := I1.kept (t' := s1.toks) fun b ob q => Heap.get?_push_of_some _ q
  have fin : wpAny (model X.prog X.w) X.A (pyIter (.ref s1.heap.objs.size)) (PIE X pins σ (.Tuple elts kk tpos) R) X.xe { s1 with heap := s1.heap.push { cls := .type "dict_items", data := .fields #[.ref d] } } := by
    refine wpAny_pyIter_items_raw (d := d) (es := esx) (ep := ep) ⟨_, Heap.get?_push_size _ rfl, rfl, rfl⟩ ⟨o, Heap.get?_push_of_some _ hgd, hx, hdt⟩ (pi_one (tk := s1.toks) I2 _ (turn_nitems _ hdt) ⟨.none, .none, ?_⟩ q)
    rw [hsz]
    exact Heap.get?_push_size _ rfl
  show wpAny _ _ (callWith cpos (.builtin "dict.items") [.ref d] [] []) _ X.xe s1
  exact method_meetsIn F.slot_dict_items F.entry_dict_items rfl (PySem.evalArgs_none ⟨rfl, tyD, F.args_dict_items_1 _, _, meets_dict_items_raw d low, ⟨esx, ep, raw⟩, fin⟩)
end
/-! as Walks -/
section
variable {κ : Type} [DecidableEq κ] {c : KC κ} {P : Program} {w : World} {d : Addr} {o : Obj} {es : List (κ × Int)}
theorem walk_nkeys : Walk (ItNK P w c d o es) es.length (fun H => FNo P w c H d o es) (fun i H x H' => H' = H ∧ ∃ k n a, es[i]? = some (k, n) ∧ x = .ref a ∧ c.at_ H a k) :=
  ⟨fun _ _ hi q => ⟨q, hi⟩, fun _ q => ⟨q, Nat.le_refl _⟩, fun _ _ _ _ _ _ y => y⟩
theorem walk_nitems : Walk (ItNI P w c d o es) es.length (fun H => FNo P w c H d o es) (fun i H x H' => ∃ T k n a, es[i]? = some (k, n) ∧ x = .ref T ∧ H T = none ∧ H' = upd H T (.tup [.ref a, .int n]) ∧ c.at_ H a k) :=
  ⟨fun _ _ hi q => ⟨q, hi⟩, fun _ q => ⟨q, Nat.le_refl _⟩, fun _ _ _ _ _ _ y => y⟩
end
end K35
/-! text RD5 -/
set_option Elab.async false
set_option linter.all false
set_option maxRecDepth 100000
set_option maxHeartbeats 4000000
namespace K35
open PySem PySem.Spec PyProof.Rows L2
section
variable {κ : Type} [DecidableEq κ] {c : KC κ}
/-! dict(a list of pairs) -/
def foldE {α : Type} (acc es : List (κ × α)) : List (κ × α) := es.foldl (fun acc e => putE acc e.1 e.2) acc
def PairsAt (c : KC κ) (H : Hp) : List V → List (κ × Int) → Prop := Paired fun v e => ∃ T a, v = .ref T ∧ H T = some (.tup [.ref a, .int e.2]) ∧ c.at_ H a e.1
theorem ek_fold {H : Hp} : ∀ {es : List (κ × Int)} {xs : List (NK × Addr × Value)} {acc : List (κ × Int)} {kvs : List Ent} {ys : List (NK × Addr × Value)},
    Paired (fun e x => x.1 = c.enc e.1 ∧ c.at_ H x.2.1 e.1 ∧ ∃ t, x.2.2 = Value.int e.2 t) es xs → EKs c H acc kvs → NEs kvs ys → ∃ kvs', EKs c H (foldE acc es) kvs' ∧ NEs kvs' (storedAllH ys xs)
  | [], _, acc, kvs, ys, .nil, r, q => ⟨kvs, r, q⟩
  | e :: es, x :: xs, acc, kvs, ys, .cons h t, r, q => by
    obtain ⟨h1, h2, tk, h3⟩ := h
    obtain ⟨kvs1, i1, i2⟩ := ek_put r q e.1 h2 e.2 tk
    obtain ⟨kvs', j1, j2⟩ := ek_fold t i1 i2
    refine ⟨kvs', j1, ?_⟩
    show NEs kvs' (storedAllH (storedH ys x.1 x.2.1 x.2.2) xs)
    rw [h1, h3]
    exact j2
theorem length_foldE {α : Type} : ∀ (es acc : List (κ × α)), (foldE acc es).length ≤ acc.length + es.length
  | [], acc => Nat.le_refl _
  | e :: es, acc => by
    have h1 := length_foldE es (putE acc e.1 e.2)
    have h2 := length_putE acc e.1 e.2
    show (foldE (putE acc e.1 e.2) es).length ≤ _
    rw [List.length_cons]
    omega
section
variable {X : Cx} {pins : List (Addr × Obj)} {σ : L2.St} {H : Hp} {s : Shared}
theorem kdp_at (I : Inv X pins σ H s) : ∀ {vs : List V} {es : List (κ × Int)} {us : List Value}, PairsAt c H vs es → Vals vs us →
    ∃ (ts : List Addr) (xs : List (NK × Addr × Value)), us = ts.map Value.ref ∧ ts.length = xs.length ∧ Paired (fun e x => x.1 = c.enc e.1 ∧ c.at_ H x.2.1 e.1 ∧ ∃ t, x.2.2 = Value.int e.2 t) es xs ∧
      ∀ (j : Nat) (x : NK × Addr × Value), xs[j]? = some x → ∃ T, ts[j]? = some T ∧ IsTup s.heap T #[.ref x.2.1, x.2.2]
  | [], [], _, .nil, r => by
    cases r
    exact ⟨[], [], rfl, rfl, .nil, fun j x h => by simp at h⟩
  | v :: vs, e :: es, _, .cons h t, r => by
    cases r with
    | cons r1 r2 =>
      obtain ⟨T, a, rfl, hT, ha⟩ := h
      cases r1
      obtain ⟨ts, xs, e1, e2, e3, e4⟩ := kdp_at I t r2
      obtain ⟨_, its, rv, p⟩ := (show ObjOk X.prog X.w H s.heap T (.tup [V.ref a, V.int e.2]) from I.hok T _ hT)
      obtain ⟨u1, u2, rfl, ru1, ru2⟩ := vals2 rv
      cases ru1
      obtain ⟨tk, rfl⟩ := ru2
      refine ⟨T :: ts, (c.enc e.1, a, .int e.2 tk) :: xs, by rw [e1]; rfl, by rw [List.length_cons, List.length_cons, e2], .cons ⟨rfl, ha, tk, rfl⟩ e3, fun j x hj => ?_⟩
      cases j with
      | zero =>
        have q : (c.enc e.1, a, Value.int e.2 tk) = x := Option.some.inj hj
        subst q
        exact ⟨T, rfl, p⟩
      | succ j =>
        obtain ⟨T', q1, q2⟩ := e4 j x (by simpa using hj)
        exact ⟨T', by simpa using q1, q2⟩
end
variable {X : Cx}
def rDictN (P : Program) (w : World) (c : KC κ) (K : PySem.W.Frag) : List V → Hp → VK → Prop := fun xs H Q => ∃ (l : Addr) (vs : List V) (es : List (κ × Int)), xs = [.ref l] ∧ SqL K H l vs ∧ PairsAt c H vs es ∧
  ∀ p o, H p = none → (∀ xs, o ≠ .tup xs) → DN P w c (upd H p o) p (foldE [] es) → Q (.ref p) (upd H p o)
theorem stup_new {H : Hp} {p : Addr} {o : HO} (hp : H p = none) : STup H (upd H p o) := fun b xs e => by
  rw [upd_ne (ne_of_none e hp)]
  exact e
theorem call_dictN (hr : ∃ k, Room k X.A) (hcalm : X.calm = true) : CallR X (.type "dict") (rDictN X.prog X.w c X.K) := by
  intro pins s σ H xs us Q I r h
  obtain ⟨l, vs, es, rfl, hl, hp, q⟩ := h
  obtain ⟨u, rfl, ru⟩ := vals1 r
  cases ru
  obtain ⟨kr, hr⟩ := hr
  have hu := hr.units
  obtain ⟨its, rv, ⟨o, n, ho, hcl, hdi, hdat⟩, hz⟩ := I.list hl
  obtain ⟨ts, xs, e1, e2, e3, e4⟩ := kdp_at (c := c) I hp rv
  have len : es.length = xs.length := Paired.length e3
  have lenv : vs.length = xs.length := by rw [rv.length, e1, List.length_map, e2]
  have items : PairItems s.heap its.toArray (fun j => ts.getD j 0) (xs.map fun x => (Value.ref x.2.1, x.2.2)) := by
    refine ⟨by simp [e1, e2], fun j k v hj => ?_⟩
    rw [List.getElem?_map] at hj
    obtain ⟨x, hx, ex⟩ := Option.map_eq_some_iff.mp hj
    obtain ⟨T, hT, hIs⟩ := e4 j x hx
    injection ex with ex1 ex2
    subst ex1 ex2
    refine ⟨?_, .inl ?_⟩
    · rw [e1]
      simp [hT]
    · simp only [List.getD_eq_getElem?_getD, hT, Option.getD_some]
      exact hIs
  refine call_dict_pairsH (knd := nestedKind X.prog X.w) (ps := xs) (PairArg.list l its.toArray (fun j => ts.getD j 0) (xs.map fun x => (Value.ref x.2.1, x.2.2))) (I.ok.hd hcalm) (room_nest2 hu _ _) ⟨⟨o, n, ho, hcl, hdi, hdat⟩, items⟩ ⟨by simp, fun i key v hi => ?_⟩ (fun h' hk x hx => ?_) (by simp; omega) fun h' tk of hk => ?_
  · have hi : (xs.map fun x => (Value.ref x.2.1, x.2.2))[i]? = some (key, v) := hi
    rw [List.getElem?_map] at hi
    obtain ⟨x, hx, ex⟩ := Option.map_eq_some_iff.mp hi
    injection ex with ex1 ex2
    subst ex1 ex2
    exact ⟨x.1, x.2.1, hx, rfl⟩
  · obtain ⟨j, hj⟩ := List.mem_iff_getElem?.mp hx
    obtain ⟨e, he, h1, h2, _⟩ : ∃ e, es[j]? = some e ∧ x.1 = c.enc e.1 ∧ c.at_ H x.2.1 e.1 ∧ ∃ t, x.2.2 = Value.int e.2 t := by
      have hjl : j < es.length := by
        rw [len]
        exact (List.getElem?_eq_some_iff.mp hj).1
      obtain ⟨x', hx', r'⟩ := paired_get e3 (List.getElem?_eq_getElem hjl)
      rw [hj] at hx'
      cases hx'
      exact ⟨_, List.getElem?_eq_getElem hjl, r'⟩
    rw [h1]
    exact nestedKind_stays.stays (fun b ob vs' m e' _ => hk b ob (Nat.ne_of_lt (Heap.lt_size e')) (fun z => nomatch z) e') (c.is I.hok h2)
  · have hn : H s.heap.objs.size = none := I.hok.fresh (Nat.le_refl _)
    have hm : (s.heap.objs.size == sysModules) = false := beq_eq_false_iff_ne.mpr (Nat.ne_of_gt I.big)
    obtain ⟨kvs', j1, j2⟩ := ek_fold e3 (acc := []) (kvs := []) (ys := []) .nil .nil
    obtain ⟨q0, esx, ep, hq0, h2, h3, h4, _, h5⟩ := of
    have sz : kvs'.length ≤ sizeLine := by
      rw [← ek_len j1]
      have := length_foldE es []
      rw [List.length_nil] at this
      omega
    refine ⟨.ref s.heap.objs.size, _, I.laid (t' := tk) (o := hoN X.prog X.w s.heap.objs.size kvs') (fun b ob e => hk b ob (fun z => nomatch z) e) (Nat.le_refl _) (hoN_ok ⟨sz, hm, q0, hq0, h2, esx, ep, _, h3, h4, h5, j2⟩), rfl, ?_⟩
    exact q _ _ hn (fun _ z => nomatch z) ⟨kvs', upd_same, j1.keep (stup_new hn)⟩
end
end K35
/-! text RD6 -/
set_option Elab.async false
set_option linter.all false
set_option maxRecDepth 100000
set_option maxHeartbeats 4000000
/-! == of two such dicts -/
namespace K35
open PySem PySem.Spec PyProof.Rows L2
/-- the pairs that are asked, one behind another -/
def eqRest (yb : List (NK × Addr × Value)) : List (NK × Addr × Value) → Bool → Prop
  | [], r => r = true
  | x :: xs, r => (atKey yb x.1 = none ∧ r = false) ∨ ∃ b n m t t', atKey yb x.1 = some (b, .int m t') ∧ x.2.2 = .int n t ∧ ((n = m ∧ eqRest yb xs r) ∨ (n ≠ m ∧ r = false))
section
variable {P : Program} {w : World} {A : Around} {E : Value → Shared → Prop} {s : Shared}
theorem n_same {nm : String} {a b : Addr} {xa xb : List (NK × Addr × Value)} {r : Bool} {Q : Bool → Shared → Prop} (hu : (nestedKind P w).room A) (ha : (a == sysModules) = false) (hb : (b == sysModules) = false)
    (da : s.heap.DictOfH (nestedKind P w) a xa) (db : s.heap.DictOfH (nestedKind P w) b xb) (hits : xa.length = xb.length → eqRest xb xa r) (h : Q (xa.length == xb.length && r) s) :
    wpAny (model P w) A (Builtin.Dict.samePairs nm a b) Q E s := by
  obtain ⟨oa, es, ep, hoa, _, hda, hka, isa, nda⟩ := da
  obtain ⟨ob, es', ep', hob, _, hdb, hkb, isb, ndb⟩ := db
  have hla : xa.length = es.size := (size_of_entries hka).symm
  have hlb : xb.length = es'.size := (size_of_entries hkb).symm
  unfold Builtin.Dict.samePairs Builtin.Dict.showsAll
  rw [if_neg (show ¬ (a == sysModules) = true by rw [ha]; exact Bool.false_ne_true), if_neg (show ¬ (b == sysModules) = true by rw [hb]; exact Bool.false_ne_true)]
  refine wpAny_bind (wpAny_pure (wpAny_bind (wpAny_pure (wpAny_bind (wpAny_dictEntries hoa hda ?_)))))
  dsimp only
  refine wpAny_bind (wpAny_dictEntries hob hdb ?_)
  by_cases hsz : es.size = es'.size
  case neg =>
    rw [if_pos (by simpa using hsz)]
    have hbf : (xa.length == xb.length) = false := by rw [hla, hlb]; simpa using hsz
    rw [hbf, Bool.false_and] at h
    exact wpAny_bind (wpAny_rule (wpAny_pure h))
  case pos =>
    have hts : (xa.length == xb.length) = true := by rw [hla, hlb]; simpa using hsz
    rw [hts, Bool.true_and] at h
    have hits' := hits (by rw [hla, hlb]; exact hsz)
    rw [if_neg (by rw [hsz]; simp)]
    refine wpAny_bind (wpAny_dictEpoch hoa hda (wpAny_bind ?_))
    rw [Std.Legacy.Range.forIn_eq_forIn_range']
    simp only [Std.Legacy.Range.size, Nat.sub_zero, Nat.add_sub_cancel, Nat.div_one]
    refine wpAny_forIn_list _
      (fun rest q s' => s' = s ∧ q = (none, ()) ∧ ∃ i, rest = List.range' i (es.size - i) ∧ i ≤ es.size ∧ eqRest xb (xa.drop i) r)
      _ ?_ ?_ _ _ ⟨rfl, rfl, 0, by simp, Nat.zero_le _, hits'⟩
    · rintro x rest q s' ⟨rfl, rfl, i, hr, hi, hpre⟩
      have hlt : i < es.size := by
        rcases Nat.lt_or_ge i es.size with z | z
        · exact z
        · rw [Nat.sub_eq_zero_of_le z] at hr
          simp at hr
      obtain ⟨rfl, hrest⟩ : x = i ∧ rest = List.range' (i + 1) (es.size - (i + 1)) := by
        have e : es.size - i = (es.size - (i + 1)) + 1 := by omega
        rw [e, List.range'_succ] at hr
        injection hr with h1 h2
        exact ⟨h1, h2⟩
      refine wpAny_bind (wpAny_dictEntries hoa hda ?_)
      have hlt' : x < xa.length := by rw [hla]; exact hlt
      obtain ⟨⟨k, ka, va⟩, hx⟩ : ∃ p, xa[x]? = some p := ⟨_, List.getElem?_eq_getElem hlt'⟩
      have hent := entry_at hka x
      rw [hx] at hent
      have hxi : xa[x] = (k, ka, va) := by
        rw [List.getElem?_eq_getElem hlt'] at hx
        exact Option.some.inj hx
      have hdrop : xa.drop x = (k, ka, va) :: xa.drop (x + 1) := by
        rw [← hxi]
        exact List.drop_eq_getElem_cons hlt'
      rw [hent]
      rw [hdrop] at hpre
      have kis : (nestedKind P w).is s'.heap k ka := isa (k, ka, va) (List.mem_of_getElem? hx)
      show wpAny _ _ (holding [Value.ref ka, va] _ >>= _) _ _ _
      refine wpAny_bind (wpAny_holding (wpAny_bind (wpAny_dictFind_heap (knd := nestedKind P w) hu kis hob hdb hkb isb ndb (fun hno => ?_) fun j p hj => ?_)))
      · rcases hpre with ⟨_, er⟩ | ⟨b', n, m, t, t', hy, _⟩
        · subst er
          refine wpAny_pure ?_
          show wpAny _ _ (if (!false) = true then _ else _) _ _ _
          rw [if_pos (by decide)]
          exact wpAny_pure (wpAny_pure h)
        · rw [atKey_none_of_get hno] at hy
          exact nomatch hy
      · refine wpAny_bind (wpAny_dictEntries hob hdb ?_)
        have hent' := entry_at hkb j
        rw [hj] at hent'
        rw [hent']
        have hat := atKey_of_get ndb hj
        rcases hpre with ⟨hn, _⟩ | ⟨b', n, m, t, t', hy, hv, hq⟩
        · rw [hat] at hn
          exact nomatch hn
        · rw [hat] at hy
          have ep2 : p = (b', Value.int m t') := Option.some.inj hy
          subst ep2
          have hv : va = Value.int n t := hv
          subst hv
          show wpAny _ _ (holding [Value.int m t'] (eqBool (Value.int n t) (Value.int m t'))) _ _ _
          refine wpAny_holding (wpAny_eqBool_int ?_)
          rcases hq with ⟨rfl, hq⟩ | ⟨hne, er⟩
          · show wpAny _ _ (if (!(n == n)) = true then _ else _) _ _ _
            rw [if_neg (by simp)]
            refine wpAny_bind (wpAny_dictEpoch hoa hda ?_)
            rw [if_neg (by simp)]
            exact wpAny_pure ⟨rfl, rfl, x + 1, hrest, hlt, hq⟩
          · subst er
            show wpAny _ _ (if (!(n == m)) = true then _ else _) _ _ _
            rw [if_pos (by simp [hne])]
            exact wpAny_pure (wpAny_pure h)
    · rintro q s' ⟨rfl, rfl, i, hr, hi, hpre⟩
      have hin : i = es.size := by
        rcases Nat.lt_or_ge i es.size with z | z
        · have e : es.size - i = (es.size - (i + 1)) + 1 := by omega
          rw [e, List.range'_succ] at hr
          exact nomatch hr
        · exact Nat.le_antisymm hi z
      refine wpAny_pure ?_
      rw [hin, ← hla, List.drop_length] at hpre
      have hpre : r = true := hpre
      subst hpre
      exact h
theorem n_eq {a b : Addr} {xa xb : List (NK × Addr × Value)} {r : Bool} {Q : Value → Shared → Prop} (hu : A.units + 64 < cLine) (ha : (a == sysModules) = false) (hb : (b == sysModules) = false)
    (da : s.heap.DictOfH (nestedKind P w) a xa) (db : s.heap.DictOfH (nestedKind P w) b xb) (hits : xa.length = xb.length → eqRest xb xa r) (h : Q (.bool (xa.length == xb.length && r)) s) :
    wpAny (model P w) A (compareOp .Eq (.ref a) (.ref b)) Q E s := by
  refine wpAny_richCompare_same_room (op := .Eq) da.typeIs db.typeIs PySem.F.slot_dict_eq (wpAny_call_entry PySem.F.slot_dict_eq da.typeIs PySem.F.entry_dict_eq ?_ (PySem.F.args_dict_eq_2 _ _)) (by omega)
  show wpAny _ _ (Builtin.Dict.dictSlotArgs "__eq__" ⟨[.ref a, .ref b], []⟩ >>= _) _ _ s
  refine wpAny_bind ?_
  unfold Builtin.Dict.dictSlotArgs
  refine wpAny_bind (wpAny_notOrdered_dict da.typeIs ?_)
  show wpAny _ _ (pure (Value.ref a, Value.ref b)) _ _ s
  refine wpAny_pure (wpAny_bind (wpAny_isInstance (T := "dict") db.typeIs PySem.F.sub_dict_dict ?_))
  simp only [Bool.not_true, Bool.false_eq_true, if_false]
  refine wpAny_bind (wpAny_pure (wpAny_bind (wpAny_pure (wpAny_bind (n_same (by show A.units + 1 + 8 < cLine; omega) ha hb da db hits ?_)))))
  refine wpAny_pure ⟨_, rfl, ?_, ?_⟩
  · exact fun x => nomatch x
  · simpa using h
end
section
variable {κ : Type} [DecidableEq κ] {c : KC κ}
def eqE (ea eb : List (κ × Int)) : Bool := ea.length == eb.length && ea.all fun e => decide (getE eb e.1 = some e.2)
theorem eq_rest {H H' : Hp} {eb : List (κ × Int)} {kb : List Ent} {xb : List (NK × Addr × Value)} (rb : EKs c H eb kb) (qb : NEs kb xb) :
    ∀ {ea : List (κ × Int)} {ka : List Ent} {xa : List (NK × Addr × Value)}, EKs c H' ea ka → NEs ka xa → eqRest xb xa (ea.all fun e => decide (getE eb e.1 = some e.2))
  | [], _, _, .nil, .nil => rfl
  | e :: ea, p :: ka, x :: xa, .cons h t, .cons hx tx => by
    obtain ⟨h1, h2, h3⟩ := h
    obtain ⟨x1, x2, x3⟩ := hx
    rw [h3] at x3
    obtain ⟨tk, x3⟩ := x3
    have ex : x.1 = c.enc e.1 := by rw [← x1, h1]
    have ih := eq_rest rb qb t tx
    rw [List.all_cons]
    rcases ek_at rb qb e.1 with ⟨g1, g2⟩ | ⟨m, t', b, g1, g2⟩
    · refine .inl ⟨by rw [ex]; exact g2, ?_⟩
      rw [g1]
      rfl
    · refine .inr ⟨b, e.2, m, tk, t', by rw [ex]; exact g2, x3, ?_⟩
      rw [g1]
      by_cases z : e.2 = m
      · refine .inl ⟨z, ?_⟩
        rw [z]
        simpa using ih
      · refine .inr ⟨z, ?_⟩
        have : ¬ m = e.2 := fun q => z q.symm
        simp [this]
variable {X : Cx}
def rEqN (P : Program) (w : World) (c : KC κ) : R2 := fun x y H Q => ∃ a b ea eb, x = .ref a ∧ y = .ref b ∧ RN P w c H a ea ∧ RN P w c H b eb ∧ Q (.bl (eqE ea eb)) H
theorem op_eqN (hu : X.A.units + 64 < cLine) : OpR X (compareOp .Eq) (rEqN X.prog X.w c) := by
  intro pins s σ H x y v u Q I rx ry h
  obtain ⟨a, b, ea, eb, rfl, rfl, ra, rb, q⟩ := h
  cases rx
  cases ry
  obtain ⟨ka, xa, _, Wa⟩ := ra.wf I
  obtain ⟨kb, xb, _, Wb⟩ := rb.wf I
  have la : ea.length = xa.length := (ek_len Wa.ek).trans (ne_len Wa.ne)
  have lb : eb.length = xb.length := (ek_len Wb.ek).trans (ne_len Wb.ne)
  refine n_eq hu Wa.low Wb.low Wa.of Wb.of (fun _ => eq_rest Wb.ek Wb.ne Wa.ek Wa.ne) ⟨.bl (eqE ea eb), H, I, ?_, q⟩
  unfold eqE
  rw [la, lb]
  rfl
end
end K35
/-! text R7 -/
set_option Elab.async false
set_option linter.all false
set_option maxRecDepth 100000
set_option maxHeartbeats 4000000
/-! own ==, !=, truth of instances with a dict -/
namespace K35
open PySem PySem.Spec PyProof.Rows L2
section
variable {X : Cx} {CX : CXT} {k : Nat} {f C : Addr} {fd : FuncData} {ps : List Str} {sp : Sp} {E : XK} {pins : List (Addr × Obj)} {σ : L2.St} {H : Hp} {s : Shared} {Q : VK} {us : List Value} {vs : List V}
/-- the callee runs, one level deeper on the C stack -/
theorem run_fn1 {Ex : Value → Shared → Prop} (F : FnOk X.prog X.w X.K X.mg X.base CX k f fd ps sp) (hr : Room (k + 1) X.A) (hb : Binds X.K fd ps []) (hx : Passes CX X.nox E)
    (I : Inv X pins σ H s) (r : Vals vs us) (h : sp vs H Q E) : wpAny (model X.prog X.w) X.A.in1 (call (.ref f) us) (EP X pins σ Q) Ex s := by
  have hl : (us ++ []).length = ps.length := by rw [List.append_nil, ← r.length]; exact F.len _ _ _ _ h
  have hb' := hb s us I.kIn hl
  rw [List.append_nil] at hb'
  refine wpAny_call (codeAny_mono (F.run X.A.in1 X.stack s H ⟨us, []⟩ us vs Q E hr.in1 I.env0.in1 hb' r h) fun r s' hq => ?_)
  cases r with
  | error e => exact (hx pins σ H s e s' (I.wish _) hq).elim
  | ok fl =>
    cases fl with
    | ret u => exact I.after hq
    | next => exact False.elim hq
    | brk => exact False.elim hq
    | cont => exact False.elim hq
/-- an instance of the class at C -/
def InC (H : Hp) (a C : Addr) : Prop := ∃ dx fs, H a = some (.ins C dx fs)
theorem inC_at (I : Inv X pins σ H s) {a : Addr} (h : InC H a C) : ∃ od : Addr × Obj, PySem.W.InstAt s.heap a (PySem.W.instObj C od.1) C (some od.2) := by
  obtain ⟨dx, fs, h⟩ := h
  obtain ⟨mA, O, _⟩ := ins_get I.hok h
  obtain ⟨od, J, _⟩ := O.look
  exact ⟨(dx, od), J⟩
/-- what of the class == and != lean on -/
structure EqC (K : PySem.W.Frag) (C f : Addr) : Prop where
  eq : PySem.W.findIn K (.ref C) "__eq__" = some (some (.ref f))
  fn : PySem.W.isFn K (.ref f) = true
  ne : PySem.W.findIn K (.ref C) "__ne__" = some (some (.builtin "object.__ne__"))
  ob : PySem.W.subIn K (.ref C) (.type "object") = some true
/-- x == y, both instances of the class at C -/
def rEqC (C : Addr) (sp : Sp) (E : XK) : R2 := fun x y H Q => ∃ a b, x = .ref a ∧ y = .ref b ∧ InC H a C ∧ InC H b C ∧ sp [x, y] H Q E
theorem op_eqC (c : EqC X.K C f) (F : FnOk X.prog X.w X.K X.mg X.base CX k f fd ps sp) (hr : Room k X.A) (hb : Binds X.K fd ps []) (hx : Passes CX X E) : OpR X (compareOp .Eq) (rEqC C sp E) := by
  intro pins s σ H x y v u Q I rx ry h
  obtain ⟨a, b, rfl, rfl, ha, hb', q⟩ := h
  cases (show v = Value.ref a from rx)
  cases (show u = Value.ref b from ry)
  obtain ⟨od, J⟩ := inC_at I ha
  obtain ⟨od', J'⟩ := inC_at I hb'
  obtain ⟨m, hF⟩ := I.fr
  have nf : PySem.W.notFirst X.K C (.ref C) = true := by simp [PySem.W.notFirst]
  show wpAny _ _ (richCompare .Eq (.ref a) (.ref b)) _ _ _
  refine PySem.W.cmp_K (op := .Eq) (tb := .ref C) hr.units0 hF I.ok.mod.kin J J'.type nf c.eq c.fn ?_
  refine wpAny_mono (run_fn (us := [.ref a, .ref b]) (vs := [.ref a, .ref b]) (dvs := []) (ds := []) F hr hb .nil hx I (.cons rfl (.cons rfl .nil)) q) (fun w s' z => ?_) fun _ _ x => x
  obtain ⟨z', H', I', rz, qz⟩ := z
  exact SlX.cmpback rz ⟨z', H', I', rz, qz⟩
theorem ne_slot : Slot "object" "__ne__" "object.__ne__" :=
  Slot.of (T := "object") (name := "__ne__") (owner := "object") (n := "__ne__") (by rw [typeLookup_type, builtinLookup_eq_fast]; kernel_rfl) (by decide +kernel) (by decide +kernel) (by decide +kernel)
    (.inl (by decide +kernel)) (by rw [isSubtype_type]; kernel_rfl)
/-- x != y by the class's == -/
def rNeC (C : Addr) (sp : Sp) (E : XK) : R2 := fun x y H Q => ∃ a b, x = .ref a ∧ y = .ref b ∧ InC H a C ∧ InC H b C ∧ sp [x, y] H (fun z H' => ∃ k, z = .bl k ∧ Q (.bl (!k)) H') E
theorem op_neC (c : EqC X.K C f) (F : FnOk X.prog X.w X.K X.mg X.base CX k f fd ps sp) (hr : Room (k + 1) X.A) (hb : Binds X.K fd ps []) (hx : Passes CX X.nox E) : OpR X (compareOp .NotEq) (rNeC C sp E) := by
  intro pins s σ H x y v u Q I rx ry h
  obtain ⟨a, b, rfl, rfl, ha, hb', q⟩ := h
  cases (show v = Value.ref a from rx)
  cases (show u = Value.ref b from ry)
  obtain ⟨od, J⟩ := inC_at I ha
  obtain ⟨od', J'⟩ := inC_at I hb'
  have hu := hr.units
  have XK := I.kIn
  have body : wpAny (model X.prog X.w) X.A.in1 (Builtin.«object.__ne__» ⟨[.ref a, .ref b], []⟩) (fun f s' => ∃ z, f = .done (.ret (.bool z)) ∧ EP X pins σ Q (.bool z) s') X.xe s := by
    unfold Builtin.«object.__ne__»
    have key : wpAny (model X.prog X.w) X.A.in1 (callSpecialIfBound? (.ref a) (Str.ofString "__eq__") [.ref b]) (fun r s' => ∃ kk, r = some (Value.bool kk) ∧ EP X pins σ Q (.bool (!kk)) s') X.xe s := by
      refine PySem.W.ifBound_K XK J c.eq c.fn ?_
      refine wpAny_mono (run_fn1 (us := [.ref a, .ref b]) (vs := [.ref a, .ref b]) F hr hb hx I (.cons rfl (.cons rfl .nil)) q) (fun r s' hr' => ?_) fun _ _ e => e
      obtain ⟨z', H', I', rz, kk, rfl, qz⟩ := hr'
      cases (show r = Value.bool kk from rz)
      exact ⟨kk, rfl, .bl (!kk), H', I', rfl, qz⟩
    refine wpAny_bind (m := slotArgs "__ne__" 1 ⟨[.ref a, .ref b], []⟩) ?_
    unfold slotArgs
    refine wpAny_pure ?_
    refine wpAny_bind (wpAny_cRoomFor (by show X.A.units + 1 < cLine; omega) ?_)
    refine wpAny_bind (wpAny_mono key (fun r s' hr' => ?_) fun _ _ e => e)
    obtain ⟨kk, rfl, fin⟩ := hr'
    exact wpAny_bind (wpAny_truthy_bool (wpAny_pure ⟨_, rfl, fin⟩))
  have one : wpAny (model X.prog X.w) X.A (tryCompare (.ref a) "__ne__" (.ref b)) (fun r s' => ∃ v, r = some v ∧ EP X pins σ Q v s') X.xe s := by
    unfold tryCompare
    have tl : wpAny (model X.prog X.w) X.A (call (.builtin "object.__ne__") [.ref a, .ref b]) (fun v s' => (∃ z, v = .bool z) ∧ EP X pins σ Q v s') X.xe s := by
      refine wpAny_call (codeAny_call_builtin ne_slot.plain PySem.F.cmpEntry_ne (PySem.W.check_slot PySem.F.cmpKind_ne PySem.F.cmpSplit_ne (J.type.andThen (PySem.W.looks_subIn XK c.ob)) (PySem.F.cmpArgs_ne _ _) (wpAny_mono body (fun f s' z => ?_) fun _ _ e => e)))
      obtain ⟨b0, rfl, fin⟩ := z
      exact ⟨⟨b0, rfl⟩, fin⟩
    have spc : wpAny (model X.prog X.w) X.A (callSpecialIfBound? (.ref a) (Str.ofString "__ne__") [.ref b]) (fun r s' => ∃ z, r = some (.bool z) ∧ EP X pins σ Q (.bool z) s') X.xe s := by
      simp only [callSpecialIfBound?, bindSpecialIfBound?]
      refine wpAny_holding (wpAny_bind (wpAny_bind (wpAny_bind (J.type.here ((PySem.W.looks_findIn XK c.ne).here ?_)))))
      simp only [ne_slot.bind]
      refine wpAny_bind (wpAny_askSetting (wpAny_ite ?_))
      have fin : wpAny (model X.prog X.w) X.A (call (.builtin "object.__ne__") ([.ref a] ++ [.ref b]) >>= fun v => pure (some v)) (fun r s' => ∃ z, r = some (.bool z) ∧ EP X pins σ Q (.bool z) s') X.xe s :=
        wpAny_bind (wpAny_mono tl (fun v s' hv => by obtain ⟨⟨z, rfl⟩, hv⟩ := hv; exact wpAny_pure ⟨z, rfl, hv⟩) fun _ _ e => e)
      split
      · exact wpAny_bind (wpAny_pure (wpAny_pure fin))
      · exact wpAny_tryCatch (wpAny_bind (wpAny_pure (wpAny_pure fin)))
    refine wpAny_bind (wpAny_mono spc (fun r s' hv => ?_) fun _ _ e => e)
    obtain ⟨z, rfl, hv⟩ := hv
    exact wpAny_pure ⟨_, rfl, hv⟩
  show wpAny _ _ (richCompare .NotEq (.ref a) (.ref b)) _ _ _
  unfold richCompare
  simp only [oneThing_ref]
  refine wpAny_holding (wpAny_bind (wpAny_cRoomFor (by omega) ?_))
  refine wpAny_bind (J.type.here (wpAny_bind (J'.type.here ?_)))
  rw [show (Value.ref C != Value.ref C) = false from by simp]
  simp only [Bool.false_eq_true, if_false]
  refine wpAny_bind (wpAny_pure ?_)
  simp only [Bool.false_eq_true, if_false]
  refine wpAny_bind (wpAny_mono one (fun r s' z => ?_) fun _ _ e => e)
  obtain ⟨v, rfl, hq⟩ := z
  exact wpAny_pure hq
/-- truth by the class's __bool__ -/
theorem truthC {Q : Bool → Hp → Prop} {a : Addr} (hs : PySem.W.findIn X.K (.ref C) "__bool__" = some (some (.ref f))) (hf : PySem.W.isFn X.K (.ref f) = true) (F : FnOk X.prog X.w X.K X.mg X.base CX k f fd ps sp) (hr : Room k X.A) (hb : Binds X.K fd ps []) (hx : Passes CX X E)
    (I : Inv X pins σ H s) (ha : InC H a C) (q : sp [.ref a] H (fun z H' => ∃ k, z = .bl k ∧ Q k H') E) : wpAny (model X.prog X.w) X.A (truthy (.ref a)) (TP X pins σ Q) X.xe s := by
  obtain ⟨od, J⟩ := inC_at I ha
  obtain ⟨m, hF⟩ := I.fr
  refine PySem.W.truthy_K hF I.ok.mod.kin J hs hf ?_
  refine wpAny_mono (run_fn (us := [.ref a]) (vs := [.ref a]) (dvs := []) (ds := []) F hr hb .nil hx I (.cons rfl .nil) q) (fun w s' z => ?_) fun _ _ x => x
  obtain ⟨z', H', I', rz, kk, rfl, qz⟩ := z
  cases (show w = Value.bool kk from rz)
  exact ⟨H', I', qz⟩
def tTruC (C : Addr) (sp : Sp) (E : XK) (ta : TE) : TT := fun σ H Q => ta σ H fun x H1 => ∃ a, x = .ref a ∧ InC H1 a C ∧ sp [.ref a] H1 (fun z H' => ∃ k, z = .bl k ∧ Q k H') E
theorem pt_truC {e : Expr} {te : TE} (hs : PySem.W.findIn X.K (.ref C) "__bool__" = some (some (.ref f))) (hf : PySem.W.isFn X.K (.ref f) = true) (F : FnOk X.prog X.w X.K X.mg X.base CX k f fd ps sp) (hr : Room k X.A) (hb : Binds X.K fd ps []) (hx : Passes CX X E)
    (ha : PE X e te) (he : ∀ whole, isTrue e X.env whole = (do let v ← whole; standAt e.pos; holding [v] (truthy v))) : PT X e (tTruC C sp E te) := by
  refine ⟨fun pins s σ H Q I h => ?_⟩
  refine isTrue_plain (thn (ha.run pins s σ H _ I h) fun v s1 ⟨x, H1, I1, r1, a, ex, hC, q1⟩ => ?_) (he _)
  subst ex
  obtain rfl : v = Value.ref a := r1
  exact truthC hs hf F hr hb hx I1 hC q1
end
end K35
/-! text R8 -/
set_option Elab.async false
set_option linter.all false
set_option maxRecDepth 100000
set_option maxHeartbeats 4000000
/-! values that stand for data; comprehensions that change nothing; sorted -/
namespace K35
open PySem PySem.Spec PyProof.Rows L2
/-- how data of a kind stands in a heap -/
structure EC (α : Type) where
  at_ : Hp → V → α → Prop
  dat : α → PyData
  keep : ∀ {H H' : Hp} {v : V} {x : α}, STup H H' → at_ H v x → at_ H' v x
  dp : ∀ {K : PySem.W.Frag} {H : Hp} {v : V} {x : α}, at_ H v x → Dp K H v (dat x)
section
variable {α β : Type} {H H' : Hp}
abbrev EC.all (E : EC α) (H : Hp) : List V → List α → Prop := Paired (E.at_ H)
theorem EC.allKeep (E : EC α) {vs : List V} {l : List α} (s : STup H H') (h : E.all H vs l) : E.all H' vs l := Paired.mono (fun _ _ q => E.keep s q) h
theorem EC.dpAll (E : EC α) {K : PySem.W.Frag} : ∀ {vs : List V} {l : List α}, E.all H vs l → DpAll K H vs (l.map E.dat)
  | _, _, .nil => .nil
  | _, _, .cons h t => .cons (E.dp h) (E.dpAll t)
/-- a list of such data, made by the program -/
def LsE (E : EC α) (H : Hp) (a : Addr) (l : List α) : Prop := ∃ vs, H a = some (.lst vs) ∧ E.all H vs l
theorem LsE.same {E : EC α} {a : Addr} {l : List α} (h : LsE E H a l) (s : Same H H') : LsE E H' a l := let ⟨vs, e, q⟩ := h; ⟨vs, s _ _ e, E.allKeep (Same.tups s) q⟩
theorem LsE.dp {E : EC α} {K : PySem.W.Frag} {a : Addr} {l : List α} (h : LsE E H a l) : Dp K H (.ref a) (.list (l.map E.dat)) := let ⟨_, e, q⟩ := h; .lst (.of e) (E.dpAll q)
def ecI : EC Int where
  at_ := fun _ v i => v = .int i
  dat := .int
  keep := fun _ h => h
  dp := fun {K H v x} h => by subst h; exact .int x
def ecN : EC Nat where
  at_ := fun _ v i => v = .int (i : Int)
  dat := fun i => .int i
  keep := fun _ h => h
  dp := fun {K H v x} h => by subst h; exact .int x
def ecStr : EC Str where
  at_ := fun _ v i => v = .str i
  dat := .str
  keep := fun _ h => h
  dp := fun {K H v x} h => by subst h; exact .str x
def ecT (E : EC α) : EC (List α) where
  at_ := fun H v l => ∃ a vs, v = .ref a ∧ H a = some (.tup vs) ∧ E.all H vs l
  dat := fun l => .tuple (l.map E.dat)
  keep := fun s ⟨a, vs, e, h, q⟩ => ⟨a, vs, e, s _ _ h, E.allKeep s q⟩
  dp := fun ⟨a, vs, e, h, q⟩ => by subst e; exact .tup (.of h) (E.dpAll q)
theorem all_ints {vs : List V} {l : List Int} (h : ecI.all H vs l) : vs = l.map V.int := by
  induction h with
  | nil => rfl
  | cons a t ih => rw [List.map_cons, ← ih]; exact congrArg (· :: _) a
theorem ints_all : ∀ (l : List Int), ecI.all H (l.map V.int) l
  | [] => .nil
  | _ :: l => .cons rfl (ints_all l)
theorem all_strs {vs : List V} {l : List Str} (h : ecStr.all H vs l) : vs = l.map V.str := by
  induction h with
  | nil => rfl
  | cons a t ih => rw [List.map_cons, ← ih]; exact congrArg (· :: _) a
theorem strs_all : ∀ (l : List Str), ecStr.all H (l.map V.str) l
  | [] => .nil
  | _ :: l => .cons rfl (strs_all l)
/-- places -/
def ecP : EC Place where
  at_ := fun H v p => ∃ a, v = .ref a ∧ IT H a p
  dat := fun p => .tuple (p.map .int)
  keep := fun s ⟨a, e, h⟩ => ⟨a, e, s _ _ h⟩
  dp := fun {K H v x} ⟨a, e, h⟩ => by subst e; exact .tup (.of h) (ecI.dpAll (ints_all x))
abbrev St3 := Place × Nat × Int
/-- streets with numbers -/
def ecS : EC St3 where
  at_ := fun H v s => ∃ t q, v = .ref t ∧ IT H q s.1 ∧ H t = some (.tup [.ref q, .int (s.2.1 : Int), .int s.2.2])
  dat := fun s => .tuple [.tuple (s.1.map .int), .int s.2.1, .int s.2.2]
  keep := fun s ⟨t, q, e, h, h'⟩ => ⟨t, q, e, s _ _ h, s _ _ h'⟩
  dp := fun {K H v x} ⟨t, q, e, h, h'⟩ => by
    subst e
    exact .tup (.of h') (.cons (ecP.dp ⟨q, rfl, h⟩) (.cons (.int _) (.cons (.int _) .nil)))
/-- places with numbers -/
def ecE : EC (Place × Int) where
  at_ := fun H v s => ∃ t q, v = .ref t ∧ IT H q s.1 ∧ H t = some (.tup [.ref q, .int s.2])
  dat := fun s => .tuple [.tuple (s.1.map .int), .int s.2]
  keep := fun s ⟨t, q, e, h, h'⟩ => ⟨t, q, e, s _ _ h, s _ _ h'⟩
  dp := fun {K H v x} ⟨t, q, e, h, h'⟩ => by
    subst e
    exact .tup (.of h') (.cons (ecP.dp ⟨q, rfl, h⟩) (.cons (.int _) .nil))
theorem paired_two {G : α → β → Prop} {l : List α} {m : List β} (h : Paired G l m) : ∀ {i : Nat} {a : α} {b : β}, l[i]? = some a → m[i]? = some b → G a b := by
  induction h with
  | nil => intro i a b e; simp at e
  | cons x t ih =>
    intro i a b e1 e2
    cases i with
    | zero =>
      simp at e1 e2
      subst e1 e2
      exact x
    | succ i => exact ih (by simpa using e1) (by simpa using e2)
theorem same_new {D : Addr} {o : HO} (h : H D = none) : Same H (upd H D o) := fun b u e => by rw [upd_ne (ne_of_none e h)]; exact e
theorem same_over {D : Addr} {o : HO} (s : Same H H') (h : H D = none) : Same H (upd H' D o) := fun b u e => by rw [upd_ne (ne_of_none e h)]; exact s _ _ e
theorem stup_lst {D : Addr} {acc acc' : List V} (h : H D = some (.lst acc)) : STup H (upd H D (.lst acc')) := stup_upd h fun _ z => nomatch z
theorem take_snoc {l : List α} {i : Nat} {x : α} (h : l[i]? = some x) : l.take (i + 1) = l.take i ++ [x] := by
  obtain ⟨hi, rfl⟩ := List.getElem?_eq_some_iff.mp h
  exact List.take_succ_eq_append_getElem hi
/-- a comprehension whose turns change nothing that stands: item i of src gives f of it, or nothing -/
theorem lc_gen {J : It} {n : Nat} {G : Hp → Prop} {Y : Nat → Hp → V → Hp → Prop} (w : L2.Walk J n G Y) (E : EC α) (src : List β) (f : β → Option α) {g : TG} {tt : TT} {te : TE} {vs : List Nat} {σ : L2.St} {H1 : Hp} {D : Addr} {Qd : Hp → Prop}
    (hD : H1 D = none) (hn : src.length = n) (hz : n ≤ sizeLine) (hG : ∀ H, Same H1 H → G H)
    (hs : ∀ i x H H' b, src[i]? = some b → Same H1 H → Y i H x H' → ∀ (N1 : V → Hp → Prop) (N0 : Hp → Prop), (∀ z y H4, f b = some z → E.at_ H4 y z → Same H H4 → N1 y H4) → (∀ H3, f b = none → Same H H3 → N0 H3) →
      g x (wipe σ vs) H' fun σ2 H2 => wipe σ2 vs = wipe σ vs ∧ tt σ2 H2 fun c H3 => if c = true then te σ2 H3 N1 else N0 H3)
    (hd : ∀ H, Same H1 H → LsE E H D (src.filterMap f) → Qd H) :
    ∃ W : Nat → Nat → Hp → Prop, (∃ m, W 0 m (upd H1 D (.lst []))) ∧ ∀ i m H, W i m H →
      (J.stop i H ∧ Qd H) ∨ (J.go i H ∧ ∃ Nx : Hp → Prop, (∀ H', Nx H' → ∃ m', m' < m ∧ W (i + 1) m' H') ∧ ∀ x H', J.yld i H x H' → g x (wipe σ vs) H' fun σ2 H2 => wipe σ2 vs = wipe σ vs ∧ tt σ2 H2 fun b H3 =>
        if b = true then te σ2 H3 fun y H4 => ∃ acc, H4 D = some (.lst acc) ∧ acc.length < sizeLine ∧ Nx (upd H4 D (.lst (acc ++ [y]))) else Nx H3) := by
  refine lc_it w (fun i H => Same H1 H ∧ LsE E H D ((src.take i).filterMap f)) ⟨same_new hD, [], upd_same, .nil⟩ (fun i H _ p => hG H p.1) (fun i x H H' hi p y => ?_) (fun H p => hd H p.1 (by have q := p.2; rw [← hn, List.take_length] at q; exact q))
  obtain ⟨sm, acc, hacc, hp⟩ := p
  obtain ⟨b, hb⟩ : ∃ b, src[i]? = some b := ⟨src[i]'(by omega), by simp [show i < src.length by omega]⟩
  refine hs i x H H' b hb sm y _ _ (fun z v H4 hz' he sm4 => ?_) (fun H3 hz' sm3 => ?_)
  · have h4 := sm4 _ _ hacc
    refine ⟨acc, h4, ?_, same_over (sm.trans sm4) hD, acc ++ [v], upd_same, ?_⟩
    · have e1 : acc.length = _ := hp.length
      have e2 := List.length_filterMap_le f (src.take i)
      have e3 := List.length_take_le i src
      omega
    · rw [take_snoc hb, List.filterMap_append]
      have e : List.filterMap f [b] = [z] := by simp [hz']
      rw [e]
      exact Paired.snoc (E.allKeep ((Same.tups sm4).trans (stup_lst h4)) hp) (E.keep (stup_lst h4) he)
  · refine ⟨sm.trans sm3, acc, sm3 _ _ hacc, ?_⟩
    rw [take_snoc hb, List.filterMap_append]
    have e : List.filterMap f [b] = [] := by simp [hz']
    rw [e, List.append_nil]
    exact E.allKeep (Same.tups sm3) hp
end
end K35
/-! text R9 -/
set_option Elab.async false
set_option linter.all false
set_option maxRecDepth 100000
set_option maxHeartbeats 4000000
/-! texts: times, turned round, as lists, sorted; lists of data sorted -/
namespace K35
open PySem PySem.Spec PyProof.Rows L2
def revS (z : Str) : Str := ⟨z.cps.toList.reverse.toArray⟩
def repS (z : Str) (n : Int) : Str := ⟨(List.replicate n.toNat z.cps.toList).flatten.toArray⟩
theorem foldl_rep (c : Array Nat) : ∀ (k : Nat) (acc : Array Nat), ((List.replicate k c).foldl (· ++ ·) acc).toList = acc.toList ++ (List.replicate k c.toList).flatten
  | 0, acc => by simp
  | k + 1, acc => by
    rw [List.replicate_succ, List.foldl_cons, foldl_rep c k, List.replicate_succ, List.flatten_cons, Array.toList_append, List.append_assoc]
theorem str_ext {a b : Str} (h : a.cps.toList = b.cps.toList) : a = b := by
  cases a; cases b
  simp at h
  rw [h]
theorem rep_eq (z : Str) (n : Int) : (⟨(List.replicate n.toNat z.cps).foldl (· ++ ·) #[]⟩ : Str) = repS z n := str_ext (by rw [foldl_rep]; simp [repS])
theorem rep_one (z : Str) : repS z 1 = z := str_ext (by simp [repS])
theorem rep_nil {z : Str} (h : z.length = 0) (n : Int) : repS z n = z := str_ext (by
  have e : z.cps = #[] := Array.eq_empty_of_size_eq_zero h
  simp [repS, e])
theorem rep_neg (z : Str) {n : Int} (h : n < 1) : repS z n = Str.empty := str_ext (by
  have e : n.toNat = 0 := by omega
  simp [repS, e, Str.empty])
theorem fm_congr {α β : Type} {f g : α → Option β} : ∀ {l : List α}, (∀ x ∈ l, f x = g x) → l.filterMap f = l.filterMap g
  | [], _ => rfl
  | x :: l, h => by
    rw [List.filterMap_cons, List.filterMap_cons, h x (List.mem_cons_self ..), fm_congr fun y hy => h y (List.mem_cons_of_mem _ hy)]
section
variable {X : Cx}
theorem op_mulS : OpR X (binaryOp .Mult) (fun x y H Q => ∃ z n, x = .str z ∧ y = .int n ∧ -(2 ^ 62) < n ∧ n < 2 ^ 62 ∧ z.length * n.toNat ≤ sizeLine ∧ Q (.str (repS z n)) H) := by
  intro pins s σ H x y v u Q I rx ry h
  obtain ⟨z, n, rfl, rfl, lo, hi, hz, q⟩ := h
  obtain ⟨t, rfl⟩ := rx
  obtain ⟨t', rfl⟩ := ry
  have hz' := hz
  rw [sizeLine_eq] at hz'
  refine P.mul_str ?_ (fun h1 _ => ?_) (fun h1 _ => ?_) ?_
  · have a1 : ¬ n < -(2 ^ 63 : Int) := by omega
    have a2 : ¬ n ≥ 2 ^ 63 := by omega
    rw [decide_eq_false a1, decide_eq_false a2]; rfl
  · have hn : 0 < n := by omega
    have e : ((z.length * n.toNat : Nat) : Int) = (z.length : Int) * n := by rw [Int.natCast_mul, Int.toNat_of_nonneg (by omega)]
    have : (z.length : Int) ≤ (2 ^ 63 - 1) / n := Int.le_ediv_of_mul_le hn (by omega)
    omega
  · unfold Builtin.Str.tooLong
    exact decide_eq_false (by omega)
  · by_cases h1 : n < 1
    · rw [if_pos h1]
      rw [rep_neg z h1] at q
      exact ⟨by decide, .str Str.empty, H, I.tok _, ⟨_, rfl⟩, q⟩
    · rw [if_neg h1]
      by_cases h2 : (n == 1 || z.length == 0) = true
      · rw [if_pos h2]
        refine ⟨.str z, H, I, ⟨t, rfl⟩, ?_⟩
        rw [Bool.or_eq_true, beq_iff_eq, beq_iff_eq] at h2
        rcases h2 with e | e
        · rw [e, rep_one] at q; exact q
        · rw [rep_nil e] at q; exact q
      · rw [if_neg h2, rep_eq]
        refine ⟨?_, .str (repS z n), H, I.tok _, ⟨_, rfl⟩, q⟩
        show (List.replicate n.toNat z.cps.toList).flatten.toArray.size ≤ sizeLine
        rw [List.size_toArray, List.length_flatten, List.map_replicate, List.sum_replicate_nat, Array.length_toList, Nat.mul_comm]
        exact hz
theorem range_get {α : Type} : ∀ (m : List α), (List.range m.length).filterMap (m[·]?) = m
  | [] => rfl
  | x :: m => by
    rw [List.length_cons, List.range_succ_eq_map, List.filterMap_cons]
    simp only [List.getElem?_cons_zero, List.filterMap_map]
    congr 1
    refine Eq.trans ?_ (range_get m)
    refine fm_congr fun k _ => ?_
    simp
theorem rev_picked (z : Str) (u : Tok) : (slicePicked z none none (some (-1, u))).filterMap (z.cps[·]?) = z.cps.toList.reverse := by
  have e : slicePicked z none none (some (-1, u)) = (List.range z.length).map fun k => z.length - 1 - k := by
    show sliceRange ((z.length : Int) - 1) (-1) (-1) = _
    unfold sliceRange
    have c : (if (-1 : Int) > 0 then (if ((z.length : Int) - 1) < -1 then (-1 - ((z.length : Int) - 1) + -1 - 1) / -1 else 0) else (if ((z.length : Int) - 1) > -1 then (((z.length : Int) - 1) - -1 - -1 - 1) / - -1 else 0)).toNat = z.length := by
      rw [if_neg (by decide)]
      split
      · rw [show (- -1 : Int) = 1 from rfl, Int.ediv_one]; omega
      · omega
    simp only []
    rw [c]
    refine List.map_congr_left fun k hk => ?_
    have := List.mem_range.mp hk
    omega
  rw [e, List.filterMap_map, ← range_get z.cps.toList.reverse, List.length_reverse, Array.length_toList]
  refine fm_congr fun k hk => ?_
  have hk := List.mem_range.mp hk
  have hk' : k < z.cps.toList.length := by rw [Array.length_toList]; exact hk
  rw [List.getElem?_reverse hk', Array.length_toList]
  show z.cps[z.length - 1 - k]? = _
  rw [← Array.getElem?_toList]
  rfl
theorem rev_by (z : Str) (u : Tok) : Txt.sliceBy z none none (-1, u) = revS z := by
  unfold Txt.sliceBy
  rw [if_neg (by simp), rev_picked]
  rfl
/-- s[::-1] -/
def tRevS (te : TE) : TE := fun σ H Q => te σ H fun x H1 => ∃ z, x = .str z ∧ z.length ≤ sizeLine ∧ Q (.str (revS z)) H1
theorem pe_revS {e : Expr} {te : TE} {pos p1 p2 p3 : Pos} {k : Nat} (he : PE X e te) : PE X (.Subscript e (.Slice none none (some (.UnaryOp .USub (.Constant (.int 1) k p3) p1)) p2) pos) (tRevS te) := by
  refine ⟨fun pins s σ H Q I h => ?_⟩
  refine Subscript_ (thn (he.run pins s σ H _ I h) fun v s1 ⟨x, H1, I1, r1, z, ez, hz, q1⟩ => ?_)
  subst ez
  obtain ⟨t, rfl⟩ := r1
  have hun : PE X (.UnaryOp .USub (.Constant (.int 1) k p3) p1) (tUn (rU fun i => .int (-i)) (tC (.int 1))) := pe_un un_neg pe_int
  refine wpAny_Slice ?_
  rw [evalPart_none]
  refine wpAny_pure (wpAny_pure ?_)
  rw [evalPart_some]
  refine thn (hun.run pins s1 σ H1 (fun v H' => v = .int (-1) ∧ H' = H1) I1 ⟨1, rfl, rfl, rfl⟩) fun vs s3 ⟨x3, H3, I3, r3, e3, e4⟩ => ?_
  subst e3 e4
  obtain ⟨u, rfl⟩ := r3
  have I4 : Inv X pins σ H3 { s3 with heap := s3.heap.push { cls := .type "slice", data := .fields #[.none, .none, .int (-1) u] } } := I3.kept (t' := s3.toks) fun b ob q => Heap.get?_push_of_some _ q
  have hS : Heap.IsSlice (s3.heap.push { cls := .type "slice", data := .fields #[.none, .none, .int (-1) u] }) s3.heap.objs.size none none (some (-1, u)) := ⟨_, Heap.get?_push_size _ rfl, rfl, rfl⟩
  refine tail_any (ops := [.ref s3.heap.objs.size, .str z t]) (typeIs_str _ _ _) F.slot_str_getitem.lookup (wpAny_getItem_str_slice hS rfl ?_) (by with_unfolding_all rfl)
  have e : sliceMade z t none none (some (-1, u)) = Made.str (revS z) := by
    unfold sliceMade
    rw [if_neg (by simp), rev_picked]
    rfl
  rw [e]
  refine ⟨?_, .str (revS z), H3, I4.tok _, ⟨_, rfl⟩, q1⟩
  show (z.cps.toList.reverse.toArray).size ≤ sizeLine
  rw [List.size_toArray, List.length_reverse, Array.length_toList]
  exact hz
/-- the signs of a text, each a text -/
def sgs (z : Str) : List Str := z.cps.toList.map fun c => ⟨#[c]⟩
theorem signs_strs {x : Str} {acc : Array Value} (h : ItemsOf (SignAt x) acc x.cps.size) : StrsAre acc.toList (sgs x) := by
  have key : ∀ (l : List Nat) (vs : List Value), vs.length = l.length → (∀ (j : Nat) (v : Value), vs[j]? = some v → ∃ c u, l[j]? = some c ∧ v = .str ⟨#[c]⟩ u) → StrsAre vs (l.map fun c => ⟨#[c]⟩) := by
    intro l
    induction l with
    | nil => intro vs e _; cases vs with
      | nil => exact .nil
      | cons _ _ => simp at e
    | cons c l ih => intro vs e q; cases vs with
      | nil => simp at e
      | cons v vs =>
        obtain ⟨c', u, e1, e2⟩ := q 0 v rfl
        have e1 : c = c' := by simpa using e1
        subst e1 e2
        exact .cons _ _ (ih vs (by simpa using e) fun j v' hv => q (j + 1) v' hv)
  refine key x.cps.toList acc.toList (by rw [Array.length_toList, h.1, Array.length_toList]) fun j v hv => ?_
  rw [Array.getElem?_toList] at hv
  obtain ⟨c, u, e1, e2⟩ := h.2 j v hv
  exact ⟨c, u, by rw [Array.getElem?_toList]; exact e1, e2⟩
theorem sgs_len (z : Str) : (sgs z).length = z.length := by simp [sgs, Str.length]
/-- list(s), s a text -/
theorem call_listS (hcalm : X.calm = true) : CallR X (.type "list") (fun xs H Q => ∃ z, xs = [.str z] ∧ z.length ≤ sizeLine ∧ ∀ p, H p = none → Q (.ref p) (upd H p (.lst ((sgs z).map V.str)))) := by
  intro pins s σ H xs us Q I r h
  obtain ⟨z, rfl, hz, q⟩ := h
  obtain ⟨u, eu, rx⟩ := vals1 r
  subst eu
  obtain ⟨t, rfl⟩ := rx
  refine call_list_str (I.ok.hd hcalm) z t (hn := hz) fun h' tk acc' c' hk hS' hacc => ?_
  have hlen : ((sgs z).map V.str).length ≤ sizeLine := by rw [List.length_map, sgs_len]; exact hz
  refine ⟨.ref _, upd H s.heap.objs.size (.lst ((sgs z).map V.str)), I.laid (t' := tk) hk (Nat.le_refl _) ⟨hlen, acc'.toList, c', vals_of_strs (signs_strs hacc), ?_⟩, rfl, q _ (I.hok.fresh (Nat.le_refl _))⟩
  simpa using hS'
/-- sorted(s), s a text of fewer than 64 signs -/
theorem call_sortedS (hcalm : X.calm = true) : CallR X (.builtin "sorted") (fun xs H Q => ∃ z, xs = [.str z] ∧ z.length < 64 ∧ ∀ (ys : List Str) (p : Addr), ys.Perm (sgs z) → H p = none → Q (.ref p) (upd H p (.lst (ys.map V.str)))) := by
  intro pins s σ H xs us Q I r h
  obtain ⟨z, rfl, hz, q⟩ := h
  obtain ⟨u, eu, rx⟩ := vals1 r
  subst eu
  obtain ⟨t, rfl⟩ := rx
  have hz16 : z.cps.size ≤ sizeLine := Nat.le_trans (Nat.le_of_lt hz) (by decide)
  refine Calls.call_function_entry PyProof.Rows.kind_sorted PyProof.Rows.plain_sorted PyProof.Rows.entry_sorted (PyProof.Rows.args_sorted1 _) ?_
  unfold Builtin.«sorted»
  refine wpAny_bind (m := checkCount "sorted" 1 1 _) (wpAny_pure ?_)
  refine wpAny_bind (wpAny_collect_str (A := X.A.in1) (I.ok.hd hcalm) z t (hn := hz16) fun s' acc hk hg hd ho hacc => ?_)
  have hS := signs_strs hacc
  have hal : acc.toList.length = z.length := by rw [Array.length_toList, hacc.1]; rfl
  obtain ⟨h', g', d', tk, o'⟩ := s'
  simp only at hg hd ho hk
  subst hg hd ho
  have I1 : Inv X pins σ H { s with heap := h', toks := tk } := I.kept hk
  refine wpAny_bind (wpAny_newList ?_ (by rw [hal]; exact hz16))
  have hoL : (h'.push (seqObj "list" acc.toList.toArray 0)).get? h'.objs.size = some (seqObj "list" acc.toList.toArray 0) := Heap.get?_push_size _ rfl
  show wpAny _ _ _ _ _ { s with heap := h'.push (seqObj "list" acc.toList.toArray 0), toks := tk }
  refine wpAny_bind (wpAny_holding (wpAny_call_entry PyProof.Rows.slot_list_sort ⟨_, hoL, rfl⟩ PyProof.Rows.entry_list_sort
    (list_sort_treeK strKind_oneLt (s := { s with heap := h'.push (seqObj "list" acc.toList.toArray 0), toks := tk }) hoL hS.keysOf (fun v₁ v₂ rest e => keyKind_strs (by rw [← e]; exact hS)) (by rw [hal]; exact hz) fun st' hp hs => ⟨_, rfl, ?_⟩)
    (PyProof.Rows.args_list_sort _)))
  obtain ⟨ys, g1, g2, g3⟩ := sorted_out_str hS hp hs
  obtain ⟨e', he'⟩ := PyProof.Rows.sortedHeap_at (vs := acc.toList) (out := (arrOf st').map (·.2)) hoL
  have hlen : (ys.map V.str).length ≤ sizeLine := by
    rw [List.length_map, g2.length_eq, sgs_len]
    exact hz16
  refine wpAny_pure ⟨_, rfl, .ref h'.objs.size, upd H h'.objs.size (.lst (ys.map V.str)), I1.laid (t' := tk) (fun b u e => ?_) (Nat.le_refl _)
    (show ObjOk X.prog X.w _ _ _ (.lst (ys.map V.str)) from ⟨hlen, ((arrOf st').map (·.2)).toList, e', vals_of_strs g1, by rw [Array.toArray_toList]; exact he'⟩), rfl, q ys _ g2 (I1.hok.fresh (Nat.le_refl _))⟩
  have hb : b < h'.objs.size := Heap.lt_size e
  rw [PyProof.Rows.sortedHeap_old (Nat.ne_of_lt hb) (by rw [size_push']; exact Nat.lt_succ_of_lt hb)]
  exact Heap.get?_push_of_some _ e
/-- sorted of a list of data of one kind, tuples with an item at least -/
theorem call_sortedE {α : Type} (E : EC α) (hal : ∀ b b', PySem.W.alike (E.dat b) (E.dat b') = true) (hk : ∀ b, ∃ x r, E.dat b = .tuple (x :: r)) (hdp : ∀ b, (E.dat b).depth ≤ 8) (hu : X.A.units + 64 < cLine) :
    CallR X (.builtin "sorted") (fun xs H Q => ∃ (a : Addr) (l : List α), xs = [.ref a] ∧ LsE E H a l ∧ l.length ≤ sizeLine ∧ ∀ (p : Addr) (o : HO), H p = none → LsE E (upd H p o) p (l.mergeSort (PySem.W.dataLe false E.dat)) → Q (.ref p) (upd H p o)) := by
  intro pins s σ H xs us Q I r h
  obtain ⟨a, l, rfl, ⟨vs, hl, hp⟩, hz, q⟩ := h
  obtain ⟨its, rv, hpl, hz9⟩ := I.list (SqL.of hl)
  rw [Vals.ref1 r]
  have e1 : PySem.W.EachIs (fun v b => ∃ x, RelV x v ∧ E.at_ H x b) its l := by
    clear q hz hl hpl r hz9
    induction hp generalizing its with
    | nil => cases rv; exact .nil
    | cons h t ih =>
      cases rv with
      | cons a b => exact .cons ⟨_, a, h⟩ (ih _ b)
  have er : PySem.W.EachIs (fun v b => ∃ as, Reads s.heap v (E.dat b) as) its l := e1.mono fun v b ⟨x, r, hx⟩ => Dp.reads I _ _ _ (E.dp hx) r
  refine PySem.W.sorted_data (R := fun v b => ∃ x, RelV x v ∧ E.at_ H x b) hpl.isList e1 er (PySem.W.AllAlike.of hal) (PySem.W.Sortable.tuples hk) hz (fun b _ => by have := hdp b; omega) fun out ho eo => ?_
  obtain ⟨ep, he'⟩ := PyProof.Rows.sortedAll_at s.heap its (List.toArray out)
  have key : ∀ {out : List Value} {m : List α}, PySem.W.EachIs (fun v b => ∃ x, RelV x v ∧ E.at_ H x b) out m → ∃ ws, Vals ws out ∧ E.all H ws m := by
    intro out m h
    induction h with
    | nil => exact ⟨[], .nil, .nil⟩
    | cons h t ih =>
      obtain ⟨x, r, hx⟩ := h
      obtain ⟨ws, h1, h2⟩ := ih
      exact ⟨x :: ws, .cons r h1, .cons hx h2⟩
  obtain ⟨ws, h1, h2⟩ := key eo
  have fr : H (s.heap.objs.size + 1) = none := I.hok.fresh (Nat.le_succ _)
  have hlen : ws.length ≤ sizeLine := by rw [h1.length, ho]; exact hz
  refine ⟨.ref _, upd H (s.heap.objs.size + 1) (.lst ws), I.laid (t' := s.toks) (fun _ _ => PyProof.Rows.sortedAll_old) (Nat.le_succ _) ⟨hlen, out, ep, h1, he'⟩, rfl, q _ _ fr ⟨ws, upd_same, E.allKeep (stup_new fr) h2⟩⟩
end
end K35
/-! text R10 -/
set_option Elab.async false
set_option linter.all false
set_option maxRecDepth 100000
set_option maxHeartbeats 4000000
/-! enumerate(tuple), zip(text, tuple) -/
namespace K35
open PySem PySem.Spec PyProof.Rows L2
open Sem (wp)
theorem meets_enumerate_new1 {v : Value} {o : Obj} {H : Heap → Prop} (B : Begins v o H) :
    Meets (Builtin.«enumerate.__new__» ⟨[.type "enumerate", v], []⟩) (fun _ R s => H s.heap ∧
      R (.ok (.ret (.ref (s.heap.push o).objs.size))) { s with heap := (s.heap.push o).push { cls := .type "enumerate", data := .fields #[.none, .bool false, .ref s.heap.objs.size, rawInt 0, .none, .none] } }) :=
  .of_wp fun prog w A R s h => by
    obtain ⟨hp, g, d, tk, os⟩ := s; obtain ⟨h1, h⟩ := h
    have hsub := sub_enumerate
    have q1 : ∀ {A' : Around} {E : Value → Shared → Prop} {Q : Value → Shared → Prop}, Q (.ref hp.objs.size) ⟨hp.push o, g, d, tk, os⟩ → wpAny (model prog w) A' (pyIter v) Q E ⟨hp, g, d, tk, os⟩ :=
      fun q => B.iter prog w _ _ ⟨hp, g, d, tk, os⟩ _ h1 q
    wp_walk using q1
    refine wpAny_stack_any fun st => wpAny_pure ?_
    split
    · rename_i c _ _ _ _ _
      cases (c == Value.type "enumerate")
      · wp_walk using q1
        exact ⟨_, rfl, h⟩
      · wp_walk using q1
        exact ⟨_, rfl, h⟩
    · wp_walk using q1
      exact ⟨_, rfl, h⟩
theorem enum_begins1 {prog : Program} {w : World} {A : Around} {E : Value → Shared → Prop} {s : Shared} {v : Value} {o : Obj} {H : Heap → Prop} {Q : Value → Shared → Prop} (B : Begins v o H) (h1 : H s.heap)
    (h : ∀ h', IsEnum h' (s.heap.objs.size + 1) s.heap.objs.size 0 .none → h'.get? s.heap.objs.size = some o → h'.objs.size = s.heap.objs.size + 2 →
      (∀ b o, s.heap.get? b = some o → h'.get? b = some o) → Q (.ref (s.heap.objs.size + 1)) { s with heap := h' }) :
    wpAny (model prog w) A (call (.type "enumerate") [v]) Q E s := by
  refine callType_new F.called_enumerate (by decide) (F.typeCall_enumerate_1 _) (F.newCall_enumerate_1 _) (fun obj => F.args_object_init_2 obj _) F.entry_enumerate_new
    (meets_enumerate_new1 B) ⟨h1, ?_⟩
  have hz : (s.heap.push o).objs.size = s.heap.objs.size + 1 := Heap.size_push ..
  show _ ∧ _
  rw [hz]
  have he : IsEnum ((s.heap.push o).push { cls := .type "enumerate", data := .fields #[.none, .bool false, .ref s.heap.objs.size, rawInt 0, .none, .none] }) (s.heap.objs.size + 1) s.heap.objs.size 0 .none := by
    have := Heap.get?_push_size (s.heap.push o) (o := { cls := .type "enumerate", data := .fields #[.none, .bool false, .ref s.heap.objs.size, rawInt 0, .none, .none] }) rfl
    rw [hz] at this; exact this
  refine ⟨⟨_, he, rfl⟩, h _ he (Heap.get?_push_of_some _ (Heap.get?_push_size _ B.free)) (by rw [Heap.size_push, hz]) fun b o x => Heap.get?_push_of_some _ (Heap.get?_push_of_some _ x)⟩
/-- the tuple at a as it stands at each turn, the items with their numbers in new pairs -/
def IteT (K : PySem.W.Frag) (a : Addr) : It :=
  ⟨fun i H => ∃ (xs : List V) (x : V), SqT K H a xs ∧ xs[i]? = some x,
    fun i H v H' => ∃ T x, v = .ref T ∧ H T = none ∧ H' = upd H T (.tup [.int (i : Nat), x]) ∧ ∀ xs, SqT K H a xs → xs[i]? = some x,
    fun i H => ∃ xs : List V, SqT K H a xs ∧ xs.length ≤ i⟩
theorem turn_enumT {P : Program} {w : World} {K : PySem.W.Frag} {elts : List Expr} {kk : Nat} {tpos : Pos} (a e it : Addr) (hai : a ≠ it) :
    Turn P w K (.Tuple elts kk tpos) (IteT K a) [e, it] e (fun i h => (∃ old, IsEnum h e it ((i : Nat) : Int) old) ∧ h.IsTupleIter it a i ∧ e ≠ it ∧ e ≠ a) where
  mem := by simp
  obj := fun i h st b hb => by
    obtain ⟨⟨old, he⟩, ⟨o, ho, hc, hd⟩, _⟩ := st
    have e' : b = e ∨ b = it := by simpa using hb
    rcases e' with z | z
    · rw [z]; exact ⟨_, he, fun v q => nomatch q⟩
    · rw [z]; exact ⟨o, ho, fun v q => by rw [hd] at q; cases q⟩
  keep := fun i h h' st k => let ⟨⟨old, he⟩, hi, hne⟩ := st; ⟨⟨old, k e (by simp) _ he⟩, hi.at fun o q => k it (by simp) o q, hne⟩
  item := by
    intro X hP hw hK hc i pins s σ H E I hf st hg
    subst hP hw hK
    obtain ⟨⟨old, he⟩, hit, hne, hea⟩ := st
    obtain ⟨xs, x, hq, hx⟩ := hg
    obtain ⟨its, rv, p, hz⟩ := I.tuple hq
    obtain ⟨u, hu, ru⟩ := rv.get hx
    have hel : e < s.heap.objs.size := Heap.lt_size he
    have hil : it < s.heap.objs.size := by obtain ⟨_, q, _⟩ := hit; exact Heap.lt_size q
    have hlt : i < its.toArray.size := by
      rw [List.size_toArray]
      exact (List.getElem?_eq_some_iff.mp hu).1
    have hhd : X.A.in1.in1.handled = none := I.ok.hd hc
    refine wpAny_pyNext_enum_itemD (Draws.tuple (A := X.A.in1) hhd it a hai its.toArray) he ⟨hit, p⟩ hlt hne (by simp [hne, hea]) fun x' h' tk hP ho hst hT hsz hk => ?_
    have ex : x' = u := by
      have e1 : its.toArray[i]? = some u := by simpa using hu
      rw [e1] at hP
      exact (Option.some.inj hP).symm
    subst ex
    refine ⟨_, rfl, wpAny_letOwnedTupleGo_enum (s := { s with heap := h', toks := tk + 1 }) ho fun h'' he' sb => ?_⟩
    have hT2 : h''.get? s.heap.objs.size = some { cls := .type "tuple", data := .seq #[.int i tk, x'] } := (sb.2 _ (Nat.ne_of_gt hel)).trans hT
    have new : ObjOk X.prog X.w (upd H s.heap.objs.size (.tup [.int (i : Nat), x])) h'' s.heap.objs.size (.tup [.int (i : Nat), x]) :=
      ⟨by show 2 ≤ sizeLine; decide, [.int i tk, x'], .cons ⟨_, rfl⟩ (.cons ru .nil), ⟨_, hT2, rfl, _, rfl⟩⟩
    have I1 : Inv X pins σ (upd H s.heap.objs.size (.tup [.int (i : Nat), x])) { s with heap := h'', toks := tk + 1 } :=
      I.turnedNew (ch := [e, it]) (fun b ob hb q => (sb.2 b (fun z => hb (by simp [z]))).trans (hk b ob (fun z => hb (by simp [z])) (fun z => hb (by simp [z])) q)) hf (Nat.le_refl _) new
    refine ⟨.ref s.heap.objs.size, _, I1, rfl, ⟨_, x, rfl, I.hok.fresh (Nat.le_refl _), rfl, fun ys hy => by rw [I.tuple_inj hy hq]; exact hx⟩, ⟨⟨x', ?_⟩, hst.1.at fun o q => (sb.2 it (Ne.symm hne)).trans q, hne, hea⟩, fun b hb => ?_⟩
    · have e1 : ((i + 1 : Nat) : Int) = (i : Int) + 1 := by omega
      rw [e1]; exact he'
    · have hb' : b < s.heap.objs.size := by
        have e' : b = e ∨ b = it := by simpa using hb
        rcases e' with z | z
        · rw [z]; exact hel
        · rw [z]; exact hil
      rw [upd_ne (Nat.ne_of_lt hb')]
      exact (hf b hb).1
  done := by
    intro X hP hw hK hc i pins s σ H E I hf st hg
    subst hP hw hK
    obtain ⟨⟨old, he⟩, hit, hne, hea⟩ := st
    obtain ⟨xs, hq, hx⟩ := hg
    obtain ⟨its, rv, p, hz⟩ := I.tuple hq
    obtain ⟨f0, f1, f2, f3, f4, f5⟩ := hf it (by simp)
    have hl := rv.length
    have hhd : X.A.in1.in1.handled = none := I.ok.hd hc
    by_cases hi : i = its.toArray.size
    · refine wpAny_pyNext_enum_endD (Draws.tuple (A := X.A.in1) hhd it a hai its.toArray) he (hi ▸ ⟨hit, p⟩) fun h' eb => ⟨rfl, I.turned (t' := s.toks) (fun b o hb q => eb b o hb q) f0 f1 f3 f4 f5⟩
    · have D : Draws X.prog X.w X.A.in1 it [it, a] i (fun _ _ => False) (fun j h => h.IsTupleIter it a j ∧ h.IsTuple a its.toArray ∧ j = i) :=
        { live := fun _ _ st => let ⟨o, ho, _⟩ := st.1; ⟨o, ho⟩
          frame := fun _ _ _ st hk => ⟨st.1.at fun o e => hk it (by simp) o e, st.2.1.at fun o e => hk a (by simp) o e, st.2.2⟩
          item := fun j s Q E hj st _ => absurd st.2.2 (Nat.ne_of_lt hj)
          done := fun s Q E st hE => wpAny_nextOf_tuple_end hhd st.1 st.2.1 (by rw [Array.getElem?_eq_none]; rw [List.size_toArray] at hi ⊢; omega) hE }
      exact wpAny_pyNext_enum_endD D he ⟨hit, p, rfl⟩ fun h' eb => ⟨rfl, I.turned (t' := s.toks) (fun b o hb q => eb b o hb q) f0 f1 f3 f4 f5⟩
  self := fun A i s Q E st h => let ⟨⟨_, he⟩, _⟩ := st; wpAny_pyIter_enum he h
def iEnumT (K : PySem.W.Frag) (ta : TA) : TI := fun σ H R => ta σ H fun vs H1 => ∃ a xs, vs = [.ref a] ∧ SqT K H1 a xs ∧ R (IteT K a) H1
theorem pi_enumT {X : Cx} {e : Expr} {ta : TA} {p pos tpos : Pos} {elts : List Expr} {kk : Nat} (hg : Gl X "enumerate") (hm : X.mg "enumerate" = none) (ha : PA X [e] ta) (hs : starEach [e] X.env = [(false, eval e X.env)] := by rfl) :
    PI X (.Tuple elts kk tpos) (.Call (.Name "enumerate" p) [e] [] pos) (iEnumT X.K ta) := by
  refine ⟨fun pins s σ H R I h => ?_⟩
  refine Call_ (ld_blt I hg hm boot_enumerate (PyProof.Rows.callWith_type1 (thn (ha.run pos pins s σ H _ I h) fun us s1 ⟨vs, H1, I1, r1, q1⟩ => ?_) hs rfl))
  obtain ⟨a, xs, ex, hq, q⟩ := q1
  subst ex
  cases r1 with
  | cons r rr =>
    cases rr
    cases r
    obtain ⟨its, rv, p', hz⟩ := I1.tuple hq
    have hal : a < s1.heap.objs.size := by obtain ⟨o, ho, _⟩ := p'; exact Heap.lt_size ho
    refine enum_begins1 (begins_tuple a its.toArray) p' fun h' he hit hsz hk => wpAny_pyIter_enum he ?_
    have I2 : Inv X pins σ H1 { s1 with heap := h' } := I1.kept (t' := s1.toks) hk
    have hna : a ≠ s1.heap.objs.size := Nat.ne_of_lt hal
    have hna1 : s1.heap.objs.size + 1 ≠ a := Nat.ne_of_gt (Nat.lt_succ_of_lt hal)
    refine ⟨s1.heap.objs.size + 1, [s1.heap.objs.size + 1, s1.heap.objs.size], _, _, H1, rfl, I2, turn_enumT a (s1.heap.objs.size + 1) s1.heap.objs.size hna, ⟨⟨.none, he⟩, ⟨_, hit, rfl, rfl⟩, Nat.succ_ne_self _, hna1⟩, fun b hb => ?_, q⟩
    have e' : b = s1.heap.objs.size + 1 ∨ b = s1.heap.objs.size := by simpa using hb
    have hle : s1.heap.objs.size ≤ b := by
      rcases e' with z | z
      · rw [z]; exact Nat.le_add_right _ _
      · rw [z]; exact Nat.le_refl _
    exact I1.fpOk hle (I1.hok.fresh hle)
theorem walk_enumT {K : PySem.W.Frag} {a : Addr} {xs : List V} : L2.Walk (IteT K a) xs.length (fun H => SqT K H a xs) (YPair (fun i => some (.int (i : Nat))) (fun i => xs[i]?)) := by
  refine ⟨fun i _ hi q => ⟨xs, xs[i], q, by simp [hi]⟩, fun _ q => ⟨xs, q, Nat.le_refl _⟩, fun i H v H' _ q y => ?_⟩
  obtain ⟨T, x, h1, h2, h3, h4⟩ := y
  exact ⟨T, .int (i : Nat), x, h1, h2, h3, rfl, h4 xs q⟩
theorem walk_zipT {K : PySem.W.Frag} {a b : Addr} {xs ys : List V} {n : Nat} (hn : n = min xs.length ys.length) : L2.Walk (RZ.ItzT K a b) n (fun H => SqT K H a xs ∧ SqT K H b ys) (YPair (fun i => xs[i]?) (fun i => ys[i]?)) := by
  subst hn
  refine ⟨fun i _ hi q => ?_, fun _ q => ⟨xs, ys, q.1, q.2, by omega⟩, fun i H v H' _ q y => ?_⟩
  · have h1 : i < xs.length := by omega
    have h2 : i < ys.length := by omega
    exact ⟨xs, ys, xs[i], ys[i], q.1, q.2, by simp [h1], by simp [h2]⟩
  · obtain ⟨T, x, z, h1, h2, h3, h4, h5⟩ := y
    exact ⟨T, x, z, h1, h2, h3, h4 xs q.1, h5 ys q.2⟩
/-- the signs of z and the items of the tuple at b, in new pairs -/
def ItzS (K : PySem.W.Frag) (z : Str) (b : Addr) : It :=
  ⟨fun i H => i < z.cps.size ∧ ∃ (ys : List V) (y : V), SqT K H b ys ∧ ys[i]? = some y,
    fun i H v H' => ∃ T x y, v = .ref T ∧ H T = none ∧ H' = upd H T (.tup [x, y]) ∧ (∃ c, z.cps[i]? = some c ∧ x = .str ⟨#[c]⟩) ∧ ∀ ys, SqT K H b ys → ys[i]? = some y,
    fun i H => ∃ ys : List V, SqT K H b ys ∧ i ≤ z.cps.size ∧ i ≤ ys.length ∧ (i = z.cps.size ∨ i = ys.length)⟩
theorem turn_zipS {P : Program} {w : World} {K : PySem.W.Frag} {elts : List Expr} {kk : Nat} {tpos : Pos} {x : Str} {t : Tok} {b z TI TO i1 i2 : Addr} (hb2 : b ≠ i2) (S : ZipSep2 z TI TO i1 i2 [i1] [i2, b]) :
    Turn P w K (.Tuple elts kk tpos) (ItzS K x b) [z, TI, TO, i1, i2] z (fun i h => IsZip h z TI TO .none ∧ IsTupOf2 h TI (.ref i1) (.ref i2) ∧ (∃ x y, IsTupOf2 h TO x y) ∧ h.IsStrIter i1 (strIterType x) x t i ∧ h.IsTupleIter i2 b i) where
  mem := by simp
  obj := fun i h st c hc => by
    obtain ⟨hz, hTI, ⟨x, y, hTO⟩, ⟨o1, e1, _, d1⟩, ⟨o2, e2, _, d2⟩⟩ := st
    have e' : c = z ∨ c = TI ∨ c = TO ∨ c = i1 ∨ c = i2 := by simpa using hc
    rcases e' with q | q | q | q | q
    · rw [q]; exact ⟨_, hz, fun v q => nomatch q⟩
    · rw [q]; exact ⟨_, hTI, fun v q => nomatch q⟩
    · rw [q]; exact ⟨_, hTO, fun v q => nomatch q⟩
    · rw [q]; exact ⟨o1, e1, fun v q => by rw [d1] at q; cases q⟩
    · rw [q]; exact ⟨o2, e2, fun v q => by rw [d2] at q; cases q⟩
  keep := fun i h h' st k => by
    obtain ⟨hz, hTI, ⟨x, y, hTO⟩, ⟨o1, e1, c1⟩, h2⟩ := st
    exact ⟨k z (by simp) _ hz, k TI (by simp) _ hTI, ⟨x, y, k TO (by simp) _ hTO⟩, ⟨o1, k i1 (by simp) _ e1, c1⟩, h2.at fun o q => k i2 (by simp) o q⟩
  item := by
    intro X hP hw hK hc i pins s σ H E I hf st hg
    subst hP hw hK
    obtain ⟨hz, hTI, ⟨x0, y0, hTO⟩, h1, h2⟩ := st
    obtain ⟨hi, ys, y, hqy, hy⟩ := hg
    obtain ⟨its2, rv2, p2, _⟩ := I.tuple hqy
    obtain ⟨u2, hu2, ru2⟩ := rv2.get hy
    have hzl : z < s.heap.objs.size := Heap.lt_size hz
    have hhd : X.A.in1.handled = none := I.ok.hd hc
    have hlt2 : i < its2.toArray.size := by
      rw [List.size_toArray]
      exact (List.getElem?_eq_some_iff.mp hu2).1
    refine wpAny_pyNext_zipD2_item S (Draws.text (A := X.A.in1) hhd i1 x t) (Draws.tuple (A := X.A.in1) hhd i2 b hb2 its2.toArray) hz hTI hTO h1 ⟨h2, p2⟩ hi hlt2 fun x1 x2 h' tk P1 P2 z' TO' st1 st2 hT hsz hk => ?_
    obtain ⟨c, u, hcc, rfl⟩ := P1
    have ex : x2 = u2 := by
      have e1 : its2.toArray[i]? = some u2 := by simpa using hu2
      rw [e1] at P2
      exact (Option.some.inj P2).symm
    subst ex
    refine ⟨_, rfl, wpAny_letOwnedTupleGo_zip (s := { s with heap := h', toks := tk }) z' fun h'' z'' sb => ?_⟩
    have hT2 : h''.get? s.heap.objs.size = some { cls := .type "tuple", data := .seq #[.str ⟨#[c]⟩ u, x2] } := (sb.2 _ (Nat.ne_of_gt hzl)).trans hT
    have new : ObjOk X.prog X.w (upd H s.heap.objs.size (.tup [.str ⟨#[c]⟩, y])) h'' s.heap.objs.size (.tup [.str ⟨#[c]⟩, y]) :=
      ⟨by show 2 ≤ sizeLine; decide, [.str ⟨#[c]⟩ u, x2], .cons ⟨_, rfl⟩ (.cons ru2 .nil), ⟨_, hT2, rfl, _, rfl⟩⟩
    have I1 : Inv X pins σ (upd H s.heap.objs.size (.tup [.str ⟨#[c]⟩, y])) { s with heap := h'', toks := tk } :=
      I.turnedNew (ch := [z, TI, TO, i1, i2]) (fun c o hb q => (sb.2 c (fun q' => hb (by simp [q']))).trans (hk c o (fun q' => hb (by simp [q'])) (fun q' => hb (by simp [q'])) (fun q' => hb (by simp [q'])) (fun q' => hb (by simp [q'])) q)) hf (Nat.le_refl _) new
    refine ⟨.ref s.heap.objs.size, _, I1, rfl, ⟨_, .str ⟨#[c]⟩, y, rfl, I.hok.fresh (Nat.le_refl _), rfl, ⟨c, hcc, rfl⟩, fun l hl => by rw [I.tuple_inj hl hqy]; exact hy⟩, ⟨z'', ?_, ⟨.str ⟨#[c]⟩ u, x2, ?_⟩, ?_, ?_⟩, fun c hcm => ?_⟩
    · exact (sb.2 _ S.TIz).trans (hk _ _ S.TIz S.TITO S.TIi1 S.TIi2 hTI)
    · exact (sb.2 _ S.TOz).trans TO'
    · obtain ⟨o1, e1, c1⟩ := st1
      exact ⟨o1, (sb.2 _ (Ne.symm S.zi1)).trans e1, c1⟩
    · exact st2.1.at fun o q => (sb.2 _ (Ne.symm S.zi2)).trans q
    · have hlt : c < s.heap.objs.size := by
        have e' : c = z ∨ c = TI ∨ c = TO ∨ c = i1 ∨ c = i2 := by simpa using hcm
        rcases e' with q | q | q | q | q
        · rw [q]; exact hzl
        · rw [q]; exact Heap.lt_size hTI
        · rw [q]; exact Heap.lt_size hTO
        · rw [q]; obtain ⟨_, e1, _⟩ := h1; exact Heap.lt_size e1
        · rw [q]; obtain ⟨_, e2, _⟩ := h2; exact Heap.lt_size e2
      rw [upd_ne (Nat.ne_of_lt hlt)]
      exact (hf c hcm).1
  done := by
    intro X hP hw hK hc i pins s σ H E I hf st hg
    subst hP hw hK
    obtain ⟨hz, hTI, ⟨x0, y0, hTO⟩, h1, h2⟩ := st
    obtain ⟨ys, hqy, l1, l2, hend⟩ := hg
    obtain ⟨its2, rv2, p2, _⟩ := I.tuple hqy
    have hl2 := rv2.length
    have hhd : X.A.in1.handled = none := I.ok.hd hc
    have hs2 : its2.toArray.size = ys.length := by rw [List.size_toArray]; exact hl2.symm
    refine wpAny_pyNext_zipD2_end S (Draws.text (A := X.A.in1) hhd i1 x t) (Draws.tuple (A := X.A.in1) hhd i2 b hb2 its2.toArray) hz hTI hTO h1 ⟨h2, p2⟩ l1 (by rw [hs2]; exact l2) (by rw [hs2]; exact hend) fun h' tk hk => ⟨rfl, I.turnedL (ch := [z, TI, TO, i1, i2]) (fun c o hb q =>
      hk c o (fun q' => hb (by simp [q'])) (fun q' => hb (by simp [q'])) (fun q' => hb (by simp [q'])) (fun q' => hb (by simp [q'])) q) hf⟩
  self := fun A i s Q E st h => wpAny_pyIter_zip st.1 h
def iZipS (K : PySem.W.Frag) (ta : TA) : TI := fun σ H R => ta σ H fun vs H1 => ∃ z b ys, vs = [.str z, .ref b] ∧ SqT K H1 b ys ∧ R (ItzS K z b) H1
theorem pi_zipS {X : Cx} {e e2 : Expr} {ta : TA} {p pos tpos : Pos} {elts : List Expr} {kk : Nat} (hg : Gl X "zip") (hm : X.mg "zip" = none) (ha : PA X [e, e2] ta)
    (hs : starEach [e, e2] X.env = (false, eval e X.env) :: starEach [e2] X.env := by rfl) (hpl : (backTo pos (starEach [e2] X.env)).any (·.1) = false := by rfl) :
    PI X (.Tuple elts kk tpos) (.Call (.Name "zip" p) [e, e2] [] pos) (iZipS X.K ta) := by
  refine ⟨fun pins s σ H R I h => ?_⟩
  refine Call_ (ld_blt I hg hm PyProof.Rows.boot_zip (PyProof.Rows.callWith_type1 (thn (ha.run pos pins s σ H _ I h) fun us s1 ⟨vs, H1, I1, r1, q1⟩ => ?_) hs hpl))
  obtain ⟨x, b, ys, ex, hqy, q⟩ := q1
  subst ex
  cases r1 with
  | cons r rr =>
    cases rr with
    | cons r' rr =>
      cases rr
      obtain ⟨t, rfl⟩ := r
      cases r'
      have fresh5 : ∀ c, c ∈ [s1.heap.objs.size + 4, s1.heap.objs.size + 2, s1.heap.objs.size + 3, s1.heap.objs.size, s1.heap.objs.size + 1] → FpOk X pins H1 c := fun c hcm => by
        have e' : c = s1.heap.objs.size + 4 ∨ c = s1.heap.objs.size + 2 ∨ c = s1.heap.objs.size + 3 ∨ c = s1.heap.objs.size ∨ c = s1.heap.objs.size + 1 := by simpa using hcm
        have hle : s1.heap.objs.size ≤ c := by
          rcases e' with z | z | z | z | z
          · rw [z]; exact Nat.le_add_right _ _
          · rw [z]; exact Nat.le_add_right _ _
          · rw [z]; exact Nat.le_add_right _ _
          · rw [z]; exact Nat.le_refl _
          · rw [z]; exact Nat.le_add_right _ _
        exact I1.fpOk hle (I1.hok.fresh hle)
      obtain ⟨its2, rv2, p2, _⟩ := I1.tuple hqy
      have hbl : b < s1.heap.objs.size := by obtain ⟨o, ho, _⟩ := p2; exact Heap.lt_size ho
      refine zip_begins2 (begins_text x t) (begins_tuple b its2.toArray) trivial p2 fun h' hz hTI hTO h1 h2 hsz hk => wpAny_pyIter_zip hz ?_
      have I2 : Inv X pins σ H1 { s1 with heap := h' } := I1.kept (t' := s1.toks) hk
      exact ⟨s1.heap.objs.size + 4, [s1.heap.objs.size + 4, s1.heap.objs.size + 2, s1.heap.objs.size + 3, s1.heap.objs.size, s1.heap.objs.size + 1], _, _, H1, rfl, I2,
        turn_zipS (t := t) (Nat.ne_of_lt (Nat.lt_succ_of_lt hbl)) (zip_sep2 (fun c hc => by simp at hc) (fun c hc => by rw [List.mem_singleton.mp hc]; exact hbl)), ⟨hz, hTI, ⟨_, _, hTO⟩, ⟨_, h1, rfl, rfl⟩, ⟨_, h2, rfl, rfl⟩⟩, fresh5, q⟩
theorem walk_zipS {K : PySem.W.Frag} {z : Str} {b : Addr} {ys : List V} (hn : ys.length = z.cps.size) : L2.Walk (ItzS K z b) ys.length (fun H => SqT K H b ys) (YPair (fun i => z.cps[i]?.map fun c => .str ⟨#[c]⟩) (fun i => ys[i]?)) := by
  refine ⟨fun i H hi q => ⟨by omega, ys, ys[i], q, by simp [hi]⟩, fun H q => ⟨ys, q, by omega, Nat.le_refl _, .inr rfl⟩, fun i H v H' hi q y => ?_⟩
  obtain ⟨T, x, y, h1, h2, h3, ⟨c, hc, hx⟩, h5⟩ := y
  exact ⟨T, x, y, h1, h2, h3, by simp [hc, hx], h5 ys q⟩
end K35
/-! text R11 -/
set_option Elab.async false
set_option linter.all false
set_option maxRecDepth 100000
set_option maxHeartbeats 4000000
/-! classmethods by keyword; a call of a class that a local holds; a tuple once -/
namespace K35
open PySem PySem.Spec PyProof.Rows L2 ClX
open Sem (wp)
section
variable {X : Cx} {CX : CXT} {k n i : Nat} {C p g f : Addr} {mc : Value} {fd : FuncData} {ps ks : List Str} {sp : Sp} {E : XK} {o e : Expr} {es : List Expr} {kws : List Keyword} {m x : Str} {pos apos np : Pos} {ta : TE} {t tk : TA} {pl : Sem Bool} {gb : List Value → List Value → List Value} {gV : List V → List V → List V} {dvs : List V} {ds : List Value}
def tCMethK (C : Addr) (sp : Sp) (n m : Nat) (gV : List V → List V → List V) (E : XK) (ta : TE) (t tk : TA) : TE := fun σ H Q => ta σ H fun x H1 => x = .ref C ∧ t σ H1 fun vs H2 => tk σ H2 fun zs H3 => vs.length + 1 = n ∧ zs.length = m ∧ sp (gV (.ref C :: vs) zs) H3 Q E
theorem pe_cmethK (he : PE X o ta) (r : CRead X.K C mc) (c : CMet X.K C mc m p g) (F : FnOk X.prog X.w X.K X.mg X.base CX k g fd ps sp) (hr : Room k X.A) (hb : KBn X.K fd ps n ks gb gV) (hx : Passes CX X E) (ha : PA X (e :: es) t) (hkw : PK X kws tk)
    (hall : (backToKw pos (keywordEach kws X.env)).all (·.1.isSome) = true := by rfl) (hks : (backToKw pos (keywordEach kws X.env)).filterMap (·.1) = ks := by rfl)
    (hst : starEach (e :: es) X.env = (false, eval e X.env) :: starEach es X.env := by rfl) (hpl : ((backTo pos (starEach (e :: es) X.env)).any (·.1) || (backToKw pos (keywordEach kws X.env)).any (·.1.isNone)) = false := by rfl)
    (ht : eval (.Call (.Attribute o m apos) (e :: es) kws pos) X.env = (do
      let ov ← eval o X.env
      standAt apos.atName
      let (f, first) ← holding [ov] (getMethod ov m pl)
      callWith pos f first (backTo pos (starEach (e :: es) X.env)) (backToKw pos (keywordEach kws X.env))) := by rfl) :
    PE X (.Call (.Attribute o m apos) (e :: es) kws pos) (tCMethK C sp n ks.length gV E ta t tk) := by
  refine ⟨fun pins s σ H Q I h => ?_⟩
  refine PySem.W.methodCall_KW (pl := pl) (thn (he.run pins s σ H _ I h) fun u s1 ⟨x, H1, I1, rx, ex, q⟩ => ?_) ht
  subst ex
  obtain rfl : u = Value.ref C := rx
  refine getmethcm_ok I1 r c fun s2 I2 => ?_
  refine PySem.W.callWith_of hpl (PySem.W.keeps_M c.fi) (PyProof.Rows.evalArgs_kw2 hall (thn (ha.run pos _ s2 σ H1 _ I2 q) fun us s3 ⟨vs, H2, I3, rv, q2⟩ => thn (hkw.run pos _ s3 σ H2 _ I3 q2) fun ws s4 ⟨zs, H3, I4, rz, l1, l2, q3⟩ => ⟨⟨pin_at I4, I4.kIn⟩, ?_⟩) hst)
  rw [hks]
  have key : wpAny (model X.prog X.w) X.A (call (.ref s1.heap.objs.size) us (ks.zip ws)) (EP X ((s1.heap.objs.size, PySem.W.methodObj (.ref g) (.ref C)) :: pins) σ Q) X.xe s4 := by
    refine wpAny_call (PySem.W.method_call (pin_at I4) ?_)
    have r2 := hb.rel (vs := .ref C :: vs) (us := .ref C :: us) (.cons rfl rv) rz
    have hu1 : (Value.ref C :: us).length = n := by
      rw [List.length_cons, ← rv.length]
      exact l1
    have hl : (gb (.ref C :: us) ws).length = ps.length := by rw [← r2.length]; exact F.len _ _ _ _ q3
    refine codeAny_mono (F.run X.A X.stack s4 H3 ⟨.ref C :: us, ks.zip ws⟩ (gb (.ref C :: us) ws) (gV (.ref C :: vs) zs) Q E hr I4.env0 (hb.to s4 _ ws I4.kIn hu1 (rz.length.symm.trans l2)) r2 q3) fun r s' hq => ?_
    cases r with
    | error e => exact hx _ σ H3 s4 e s' I4 hq
    | ok fl =>
      cases fl with
      | ret u => exact I4.after hq
      | next => exact False.elim hq
      | brk => exact False.elim hq
      | cont => exact False.elim hq
  exact thn key fun _ _ y => unpinE y
/-- x(e, ..), the i-th slot x holds the class at C -/
def tMakeL (i : Nat) (C : Addr) (sp : Sp) (dvs : List V) (E : XK) (t : TA) : TE := fun σ H Q => σ[i]? = some (some (.ref C)) ∧ tMake C sp dvs E t σ H Q
theorem pe_makeL (M : Mk X.K C f) (F : FnOk X.prog X.w X.K X.mg X.base CX k f fd ps sp) (hr : Room (k + 1) X.A) (hN : X.N[i]? = some x) (hv : Vis X.env.scope x) (hb : Binds X.K fd ps ds) (hd : Vals dvs ds) (hx : Passes CX X E)
    (ha : PA X (e :: es) t) (hdb : (x == ("__debug__" : Str)) = false := by decide) (hcd : (x == ("__classdict__" : Str)) = false := by decide) (he : starEach (e :: es) X.env = (false, eval e X.env) :: starEach es X.env := by rfl) (hpl : (backTo pos (starEach es X.env)).any (·.1) = false := by rfl) :
    PE X (.Call (.Name x np) (e :: es) [] pos) (tMakeL i C sp dvs E t) := by
  refine ⟨fun pins s σ H Q I h => ?_⟩
  obtain ⟨hs, ht⟩ := h
  refine wpAny_Call_Name_kw (thn ((pe_var (pos := np) hN hv hdb hcd).run pins s σ H (fun v H1 => v = .ref C ∧ H1 = H) I ⟨.ref C, hs, rfl, rfl⟩) fun u s1 ⟨v, H1, I1, r1, q1⟩ => ?_)
  obtain ⟨rfl, rfl⟩ := q1
  cases r1
  refine PySem.W.callWith_K (h₀ := X.base) I1.ok.mod.kin M.kp (thn (ha.run pos pins s1 σ _ _ I1 ht) fun us s2 ⟨vs, H2, I2, r, q⟩ => ⟨I2.kIn, ?_⟩) he hpl
  exact run_make M F hr hb hd hx I2 r q
end
section
variable {X : Cx}
theorem tuple_mul1 (l : Addr) (items : Array Value) (n : Nat) (dd : Option Addr) (sl : Array (Option Value)) (u : Tok) :
    Meets (Builtin.«tuple.__mul__» ⟨[.ref l, .int 1 u], []⟩) (fun _ R s => s.heap.get? l = some { cls := .type "tuple", dict := dd, data := .seq items n, slots := sl } ∧
      R (.ok (.ret (Value.ref l))) s) :=
  .of_wp fun prog w A R s h => by
    obtain ⟨hp, g, d, tk, os⟩ := s
    obtain ⟨hl, h⟩ := h
    have f1 := AutoSeq1.idx_int
    wp_walk using wpAny_loadPart' hl
    exact ⟨_, rfl, h⟩
def rRepZ : R2 := fun x y H Q => ∃ l k xs, x = .ref l ∧ y = .int k ∧ H l = some (.tup xs) ∧ xs ≠ [] ∧ 1 ≤ k ∧ k ≤ 1000 ∧ xs.length ≤ 1000 ∧ ∀ p H', Same H H' → H' p = some (.tup (List.replicate k.toNat xs).flatten) → Q (.ref p) H'
/-- t * k, k from 1 on -/
theorem op_repZ : OpR X (binaryOp .Mult) rRepZ := by
  intro pins s σ H x y v u Q I rx ry h
  obtain ⟨l, k, xs, rfl, rfl, hT, hne, h1, h2, hz, q⟩ := h
  by_cases hk : k = 1
  · subst hk
    cases rx
    obtain ⟨t, rfl⟩ := ry
    obtain ⟨its, r, ⟨⟨cls, dd, data, sl⟩, ho, hc, n, hd⟩, hs⟩ := I.tuple (SqT.of hT)
    simp only at hc hd
    subst hc hd
    refine wpAny_binaryOp_repeat_ref (T := "tuple") (U := "int") (by decide) ⟨_, ho, rfl⟩ (fun s' => typeIs_int s' 1 t) noFill_tuple_mul F.fills_int_mul F.slot_int_rmul repeat_tuple F.slot_int_index.lookup
      (call_meets F.slot_int_rmul (typeIs_int s 1 t) F.entry_int_rmul (F.args_int_rmul_2 _ _) (int_rmul_tuple 1 t l its.toArray n dd sl)
        ⟨ho, rfl, ⟨_, ho, rfl⟩, call_meets F.slot_tuple_mul ⟨_, ho, rfl⟩ F.entry_tuple_mul (F.args_tuple_mul_2 _ _) (tuple_mul1 l its.toArray n dd sl t) ⟨ho, ?_⟩⟩)
    exact ⟨.ref l, H, I, rfl, q l H (Same.refl H) (by simpa using hT)⟩
  · exact op_repT pins s σ H _ _ v u Q I rx ry ⟨l, k, xs, rfl, rfl, .of hT, hne, by omega, h2, hz, fun p hp => q p _ (same_new hp) upd_same⟩
end
end K35
/-! text P0 -/
set_option Elab.async false
set_option linter.all false
set_option maxRecDepth 100000
set_option maxHeartbeats 4000000
/-! words: their signs, how they are written; pure functions -/
namespace K35
open PySem PySem.Spec PyProof.Rows L2
open PySem.StrLaws PySem.Builtin.Str
/-! texts by their signs -/
theorem chain_count (z : Str) (c : Nat) : ∀ (cuts : List Nat) (a f : Nat), ChainG z ⟨#[c]⟩ z.length a cuts f → (∀ k, f ≤ k → ¬ At z ⟨#[c]⟩ z.length k) → (z.cps.toList.drop a).count c = cuts.length
  | [], a, f, h, hn => by
    have e : f = a := h
    subst e
    rw [List.count_eq_zero.mpr]
    · rfl
    · intro hm
      obtain ⟨j, hj⟩ := List.getElem?_of_mem hm
      rw [List.getElem?_drop] at hj
      exact hn (f + j) (Nat.le_add_right _ _) ((subAt_one z c _).mpr hj)
  | b :: r, a, f, h, hn => by
    obtain ⟨h1, h2, h3, h4⟩ := h
    have ih := chain_count z c r (b + 1) f h4 hn
    have hb := (subAt_one z c b).mp h2
    obtain ⟨hlt, hbe⟩ := List.getElem?_eq_some_iff.mp hb
    have e1 : z.cps.toList.drop a = (z.cps.toList.drop a).take (b - a) ++ z.cps.toList.drop b := by
      have : z.cps.toList.drop b = (z.cps.toList.drop a).drop (b - a) := by rw [List.drop_drop]; congr 1; omega
      rw [this, List.take_append_drop]
    have e2 : ((z.cps.toList.drop a).take (b - a)).count c = 0 := by
      rw [List.count_eq_zero]
      intro hm
      obtain ⟨j, hj⟩ := List.getElem?_of_mem hm
      have hj' : j < b - a := by
        have := (List.getElem?_eq_some_iff.mp hj).1
        simp at this
        omega
      rw [List.getElem?_take_of_lt hj', List.getElem?_drop] at hj
      exact h3 (a + j) (by omega) (by omega) ((subAt_one z c _).mpr hj)
    rw [e1, List.count_append, e2, List.drop_eq_getElem_cons hlt, hbe, List.count_cons_self, ih]
    simp
theorem count_sg (z : Str) (c : Nat) : Txt.count z ⟨#[c]⟩ = (z.cps.toList.count c : Nat) := by
  obtain ⟨f, g, hn⟩ := occ_tight z ⟨#[c]⟩ (Nat.le_refl 1)
  have := chain_count z c _ 0 f g hn
  rw [List.drop_zero] at this
  unfold Txt.count
  rw [this]
theorem index_sg (z : Str) (c i : Nat) (h : z.cps.toList[i]? = some c) (hn : ∀ j, j < i → z.cps.toList[j]? ≠ some c) : Txt.index0 z ⟨#[c]⟩ = some i := by
  unfold Txt.index0
  rw [occ_eq]
  have key := occ_first z ⟨#[c]⟩ z.length 1 (Nat.le_refl 1) (List.range' 0 (z.length + 1 - 0)) 0 (fun _ _ => Nat.zero_le _)
  have hi := (subAt_one z c i).mpr h
  rcases key with ⟨_, k2⟩ | ⟨pre, a, post, e, k1, k2, k3⟩
  · exact absurd hi (k2 i (by simp [List.mem_range']; have := hi.1; omega))
  · rw [List.head?_eq_getElem?, Array.getElem?_toList, k1]
    have ha := (subAt_one z c a).mp k2
    rcases Nat.lt_trichotomy a i with q | q | q
    · exact absurd ha (hn a q)
    · rw [q]
    · exfalso
      have hmem : i ∈ List.range' 0 (z.length + 1 - 0) := by simp [List.mem_range']; have := hi.1; omega
      have e1 : (List.range' 0 (z.length + 1 - 0))[pre.length]? = some a := by rw [e]; simp
      rw [List.getElem?_range'] at e1
      · have hlen : pre.length = a := by simpa using e1
        have e2 : (List.range' 0 (z.length + 1 - 0))[i]? = some i := by
          rw [List.getElem?_range']
          · simp
          · have := hi.1
            omega
        rw [e, List.getElem?_append_left (by omega)] at e2
        exact k3 i (List.mem_of_getElem? e2) hi
      · have := congrArg List.length e
        simp at this
        omega

/-! letters, signs, words -/
abbrev Sg := Nat × Bool
abbrev Wd := List Sg
def AB : List Nat := [97, 98, 109, 116, 120, 121, 122]
structure LG (L : List Nat) : Prop where
  sub : ∀ c ∈ L, c ∈ AB
  nd : L.Nodup
  pos : 1 ≤ L.length
  le : L.length ≤ 3
/-- how a sign is written -/
def cd (L : List Nat) (g : Sg) : Nat := if g.2 then L.getD g.1 0 else L.getD g.1 0 - 32
def wd (L : List Nat) (w : Wd) : Str := ⟨(w.map (cd L)).toArray⟩
def lt (L : List Nat) : Str := ⟨L.toArray⟩
def WF (n : Nat) (w : Wd) : Prop := ∀ g ∈ w, g.1 < n
def flip (g : Sg) : Sg := (g.1, !g.2)
def inv (w : Wd) : Wd := w.reverse.map flip
theorem wd_len (L : List Nat) (w : Wd) : (wd L w).length = w.length := by simp [wd, Str.length]
theorem wd_app (L : List Nat) (w v : Wd) : wd L w ++ wd L v = wd L (w ++ v) := str_ext (by
  show (wd L w ++ wd L v).cps.toList = _
  rw [Str.cps_append, Array.toList_append]
  simp [wd])
theorem wd_nil (L : List Nat) : wd L [] = Str.empty := rfl
theorem getD_mem {L : List Nat} (i : Nat) (h : i < L.length) : L.getD i 0 ∈ L := by
  rw [List.getD_eq_getElem?_getD, List.getElem?_eq_getElem h]
  exact List.getElem_mem h
theorem ab_up : ∀ c ∈ AB, Txt.upper ⟨#[c]⟩ = ⟨#[c - 32]⟩ ∧ Txt.lower ⟨#[c]⟩ = ⟨#[c]⟩ ∧ Txt.lower ⟨#[c - 32]⟩ = ⟨#[c]⟩ ∧ Txt.upper ⟨#[c - 32]⟩ = ⟨#[c - 32]⟩ := by
  decide +kernel
def LOW : Str := Str.ofString "abcdefghijklmnopqrstuvwxyz"
theorem ab_low : ∀ c ∈ AB, c ∈ LOW.cps.toList ∧ c - 32 ∉ LOW.cps.toList ∧ c - 32 ∉ AB := by decide +kernel
theorem ab_diff : ∀ c ∈ AB, ∀ d ∈ AB, (c - 32 = d - 32 → c = d) ∧ c - 32 ≠ d := by decide +kernel
section
variable {L : List Nat} (h : LG L)
include h
theorem LG.at_ {i : Nat} (hi : i < L.length) : L.getD i 0 ∈ AB := h.sub _ (getD_mem i hi)
theorem LG.inj {i j : Nat} (hi : i < L.length) (hj : j < L.length) (e : L.getD i 0 = L.getD j 0) : i = j := by
  refine (List.getElem?_inj hi h.nd).mp ?_
  rw [List.getD_eq_getElem?_getD, List.getD_eq_getElem?_getD, List.getElem?_eq_getElem hi, List.getElem?_eq_getElem hj] at e
  rw [List.getElem?_eq_getElem hi, List.getElem?_eq_getElem hj]
  exact congrArg some e
theorem LG.cd_inj {g k : Sg} (hg : g.1 < L.length) (hk : k.1 < L.length) (e : cd L g = cd L k) : g = k := by
  have a1 := h.at_ hg
  have a2 := h.at_ hk
  obtain ⟨i, b⟩ := g
  obtain ⟨j, d⟩ := k
  unfold cd at e
  cases b <;> cases d <;> simp only [Bool.false_eq_true, if_true, if_false] at e
  · exact congrArg (·, false) (h.inj hg hk ((ab_diff _ a1 _ a2).1 e))
  · exact absurd e (ab_diff _ a1 _ a2).2
  · exact absurd e.symm (ab_diff _ a2 _ a1).2
  · exact congrArg (·, true) (h.inj hg hk e)
theorem LG.lower {g : Sg} (hg : g.1 < L.length) : Txt.lower (wd L [g]) = wd L [(g.1, true)] := by
  obtain ⟨i, b⟩ := g
  have a := ab_up _ (h.at_ hg)
  cases b
  · exact a.2.2.1
  · exact a.2.1
theorem LG.upper {g : Sg} (hg : g.1 < L.length) : Txt.upper (wd L [g]) = wd L [(g.1, false)] := by
  obtain ⟨i, b⟩ := g
  have a := ab_up _ (h.at_ hg)
  cases b
  · exact a.2.2.2
  · exact a.1
theorem LG.isLow {g : Sg} (hg : g.1 < L.length) : decide (cd L g ∈ LOW.cps.toList) = g.2 := by
  obtain ⟨i, b⟩ := g
  have a := ab_low _ (h.at_ hg)
  cases b
  · exact decide_eq_false a.2.1
  · exact decide_eq_true a.1
theorem LG.inL {g : Sg} (hg : g.1 < L.length) : decide (cd L g ∈ L) = g.2 := by
  obtain ⟨i, b⟩ := g
  have a := ab_low _ (h.at_ hg)
  cases b
  · exact decide_eq_false fun q => a.2.2 (h.sub _ q)
  · exact decide_eq_true (getD_mem i hg)
theorem LG.index {i : Nat} (hi : i < L.length) : Txt.index0 (lt L) (wd L [(i, true)]) = some i := by
  refine index_sg (lt L) (L.getD i 0) i ?_ fun j hj e => ?_
  · show L[i]? = _
    rw [List.getD_eq_getElem?_getD, List.getElem?_eq_getElem hi]
    rfl
  · have e : L[j]? = some (L.getD i 0) := e
    have hj' : j < L.length := by omega
    have : i = j := h.inj hi hj' (by rw [List.getD_eq_getElem?_getD (l := L) (i := j), e]; rfl)
    omega
theorem LG.count {w : Wd} {g : Sg} (hw : WF L.length w) (hg : g.1 < L.length) : Txt.count (wd L w) (wd L [g]) = (w.count g : Nat) := by
  refine (count_sg (wd L w) (cd L g)).trans ?_
  show (((w.map (cd L)).count (cd L g) : Nat) : Int) = _
  congr 1
  induction w with
  | nil => rfl
  | cons k w ih =>
    have ih := ih (fun x hx => hw x (List.mem_cons_of_mem _ hx))
    rw [List.map_cons, List.count_cons, List.count_cons, ih]
    by_cases e : k = g
    · subst e; simp
    · have : ¬ cd L k = cd L g := fun q => e (h.cd_inj (hw k (List.mem_cons_self ..)) hg q)
      simp [e, this]
end
theorem wd_rev (L : List Nat) (w : Wd) : revS (wd L w) = wd L w.reverse := str_ext (by simp [revS, wd])
theorem sgs_wd (L : List Nat) (w : Wd) : sgs (wd L w) = w.map fun g => wd L [g] := by
  simp [sgs, wd, List.map_map, Function.comp_def]
theorem sgs_lt (L : List Nat) : sgs (lt L) = (List.range L.length).map fun i => wd L [(i, true)] := by
  refine List.ext_getElem? fun i => ?_
  simp only [sgs, lt, List.getElem?_map]
  by_cases hi : i < L.length
  · rw [List.getElem?_eq_getElem hi, List.getElem?_range hi]
    simp [wd, cd, List.getD_eq_getElem?_getD, List.getElem?_eq_getElem hi]
  · rw [List.getElem?_eq_none (by omega), List.getElem?_eq_none (by simpa using hi)]
    rfl
theorem rep_wd (L : List Nat) (w : Wd) (n : Int) : repS (wd L w) n = wd L (List.replicate n.toNat w).flatten := str_ext (by
  simp [repS, wd, List.map_flatten])
end K35
/-! text P1 -/
set_option Elab.async false
set_option linter.all false
set_option maxRecDepth 100000
set_option maxHeartbeats 4000000
/-! the functions of the program as functions of words, places, walks -/
namespace K35
open PySem PySem.Spec PyProof.Rows L2
def zeroP (n : Nat) : Place := List.replicate n 0
def addP (a b : Place) : Place := List.zipWith (fun x y => x + y) a b
def subP (a b : Place) : Place := List.zipWith (fun x y => x - y) a b
def mulP (k : Int) (a : Place) : Place := a.map fun x => k * x
def stp (p : Place) (i : Nat) (d : Int) : Place := p.take i ++ ((p.getD i 0 + d) :: p.drop (i + 1))
def counts (n : Nat) (w : Wd) : Place := (List.range n).map fun i => ((w.count (i, true) : Nat) : Int) - ((w.count (i, false) : Nat) : Int)
def shortF (acc : Wd) (g : Sg) : Wd := if acc.getLast? = some (flip g) then acc.dropLast else acc ++ [g]
def short (w : Wd) : Wd := w.foldl shortF []
def streetsOf : Place → Wd → List St3
  | _, [] => []
  | p, g :: w => if g.2 = true then (p, g.1, 1) :: streetsOf (stp p g.1 1) w else (stp p g.1 (-1), g.1, -1) :: streetsOf (stp p g.1 (-1)) w
def leadP (p : Place) : Nat := p.findIdx fun x => x != 0
def lead (p : Place) : Int := p.getD (leadP p) 0
def nrmR (r : Place) : List Place := if r.all (· == 0) = true then [] else [if lead r > 0 then r else mulP (-1) r]
def red1 (p r : Place) : Place := subP p (mulP ((p.getD (leadP r) 0).fdiv (lead r)) r)
def redR (rows : List Place) (p : Place) : Place := rows.foldl red1 p
abbrev WE := List ((Place × Nat) × Int)
def addW (es : WE) (k : Place × Nat) (d : Int) : WE :=
  if (getE es k).getD 0 + d ≠ 0 then putE es k ((getE es k).getD 0 + d) else if (getE es k).isSome = true then delE es k else es
def mkW (rows : List Place) (ss : List St3) : WE := ss.foldl (fun es s => addW es (redR rows s.1, s.2.1) s.2.2) []
def ofE (e : (Place × Nat) × Int) : St3 := (e.1.1, e.1.2, e.2)
/-! sorting -/
section
variable {α : Type} (le : α → α → Bool)
def insS (x : α) : List α → List α
  | [] => [x]
  | y :: l => if le x y = true then x :: y :: l else y :: insS x l
def isort : List α → List α
  | [] => []
  | x :: l => insS le x (isort l)
variable {le}
theorem insS_perm (x : α) : ∀ l : List α, (insS le x l).Perm (x :: l)
  | [] => .refl _
  | y :: l => by
    unfold insS
    split
    · exact .refl _
    · exact ((insS_perm x l).cons y).trans (List.Perm.swap x y l)
theorem isort_perm : ∀ l : List α, (isort le l).Perm l
  | [] => .refl _
  | x :: l => (insS_perm x _).trans ((isort_perm l).cons x)
theorem insS_sorted (h : PySem.W.TotalLe le) (x : α) : ∀ l : List α, l.Pairwise (fun a b => le a b = true) → (insS le x l).Pairwise fun a b => le a b = true
  | [], _ => by simp [insS]
  | y :: l, q => by
    obtain ⟨q1, q2⟩ := List.pairwise_cons.mp q
    unfold insS
    split
    · rename_i c
      refine List.pairwise_cons.mpr ⟨fun z hz => ?_, q⟩
      rcases List.mem_cons.mp hz with rfl | hz
      · exact c
      · exact h.trans _ _ _ c (q1 z hz)
    · rename_i c
      refine List.pairwise_cons.mpr ⟨fun z hz => ?_, insS_sorted h x l q2⟩
      rcases List.mem_cons.mp ((insS_perm x l).mem_iff.mp hz) with rfl | hz
      · have t := h.total y z
        rcases t with t | t
        · exact t
        · exact absurd t c
      · exact q1 z hz
theorem isort_sorted (h : PySem.W.TotalLe le) : ∀ l : List α, (isort le l).Pairwise fun a b => le a b = true
  | [] => .nil
  | x :: l => insS_sorted h x _ (isort_sorted h l)
theorem filter_same [DecidableEq α] (anti : ∀ a b, le a b = true → le b a = true → a = b) (h : PySem.W.TotalLe le) (c : α) (l : List α) : l.filter (PySem.W.sameRank le c) = List.replicate (l.count c) c := by
  have e : PySem.W.sameRank le c = fun a => a == c := by
    funext a
    by_cases q : a = c
    · subst q
      simp [PySem.W.sameRank, h.refl]
    · have : ¬ (a == c) = true := by simpa using q
      rw [Bool.not_eq_true] at this
      rw [this]
      unfold PySem.W.sameRank
      cases h1 : le c a <;> cases h2 : le a c <;> simp
      exact q (anti a c h2 h1)
  rw [e, List.filter_beq]
theorem sort_of_perm [DecidableEq α] (anti : ∀ a b, le a b = true → le b a = true → a = b) (h : PySem.W.TotalLe le) {m l : List α} (hs : m.Pairwise fun a b => le a b = true) (hp : m.Perm l) : m = l.mergeSort le :=
  PySem.W.sort_unique h hs fun c => by rw [filter_same anti h, filter_same anti h, hp.count_eq]
theorem isort_eq [DecidableEq α] (anti : ∀ a b, le a b = true → le b a = true → a = b) (h : PySem.W.TotalLe le) (l : List α) : isort le l = l.mergeSort le := sort_of_perm anti h (isort_sorted h l) (isort_perm l)
theorem isort_of_perm [DecidableEq α] (anti : ∀ a b, le a b = true → le b a = true → a = b) (h : PySem.W.TotalLe le) {m l : List α} (hp : m.Perm l) : isort le m = isort le l := by
  rw [isort_eq anti h l]
  exact sort_of_perm anti h (isort_sorted h m) ((isort_perm m).trans hp)
end
theorem toks_ints : ∀ (xs ys : Place) (l m : List (Int ⊕ List Nat)), PySem.W.keyToksAll (xs.map .int) ++ l = PySem.W.keyToksAll (ys.map .int) ++ m → xs = ys ∧ l = m
  | [], [], l, m, e => by
    simp only [List.map_nil, PySem.W.keyToksAll, List.cons_append, List.nil_append] at e
    injection e with _ e
    exact ⟨rfl, e⟩
  | [], y :: ys, l, m, e => by
    simp only [List.map_nil, List.map_cons, PySem.W.keyToksAll, List.cons_append, List.nil_append] at e
    injection e with e _
    injection e with e
    exact absurd e (by decide)
  | x :: xs, [], l, m, e => by
    simp only [List.map_nil, List.map_cons, PySem.W.keyToksAll, List.cons_append, List.nil_append] at e
    injection e with e _
    injection e with e
    exact absurd e (by decide)
  | x :: xs, y :: ys, l, m, e => by
    simp only [List.map_cons, PySem.W.keyToksAll, PySem.W.keyToks, List.cons_append, List.nil_append] at e
    injection e with _ e
    injection e with e1 e
    injection e1 with e1
    obtain ⟨h1, h2⟩ := toks_ints xs ys l m e
    exact ⟨by rw [e1, h1], h2⟩
def sLe : St3 → St3 → Bool := PySem.W.dataLe false ecS.dat
def eLe : Place × Int → Place × Int → Bool := PySem.W.dataLe false ecE.dat
theorem sLe_total : PySem.W.TotalLe sLe := PySem.W.sortLe_total _ false _
theorem eLe_total : PySem.W.TotalLe eLe := PySem.W.sortLe_total _ false _
theorem toks_anti {a b : PyData} (h1 : PySem.W.dataLt b a = false) (h2 : PySem.W.dataLt a b = false) : PySem.W.keyToks a = PySem.W.keyToks b :=
  (listOrd itemOrd).total _ _ h2 h1
theorem sLe_anti (a b : St3) (h1 : sLe a b = true) (h2 : sLe b a = true) : a = b := by
  have e := toks_anti (a := ecS.dat a) (b := ecS.dat b) (by simpa [sLe, PySem.W.dataLe_eq] using h1) (by simpa [sLe, PySem.W.dataLe_eq] using h2)
  obtain ⟨p, i, n⟩ := a
  obtain ⟨q, j, m⟩ := b
  simp only [ecS, PySem.W.keyToks, PySem.W.keyToksAll, List.cons_append, List.nil_append] at e
  injection e with _ e
  obtain ⟨e1, e2⟩ := toks_ints p q _ _ e
  simp at e2
  rw [e1]
  simp
  omega
theorem eLe_anti (a b : Place × Int) (h1 : eLe a b = true) (h2 : eLe b a = true) : a = b := by
  have e := toks_anti (a := ecE.dat a) (b := ecE.dat b) (by simpa [eLe, PySem.W.dataLe_eq] using h1) (by simpa [eLe, PySem.W.dataLe_eq] using h2)
  obtain ⟨p, n⟩ := a
  obtain ⟨q, m⟩ := b
  simp only [ecE, PySem.W.keyToks, PySem.W.keyToksAll, List.cons_append, List.nil_append] at e
  injection e with _ e
  obtain ⟨e1, e2⟩ := toks_ints p q _ _ e
  simp at e2
  rw [e1, e2]
/-- the streets of a walk, ascending -/
def stS (es : WE) : List St3 := isort sLe (es.map ofE)
/-- where a walk begins and ends: the sums -/
def endsD (rows : List Place) (es : WE) : List (Place × Int) :=
  es.foldl (fun d e => let d1 := putE d (redR rows (stp e.1.1 e.1.2 1)) ((getE d (redR rows (stp e.1.1 e.1.2 1))).getD 0 + e.2); putE d1 e.1.1 ((getE d1 e.1.1).getD 0 - e.2)) []
def ends (rows : List Place) (es : WE) : List (Place × Int) := isort eLe ((endsD rows es).filter fun e => e.2 != 0)
def endOf (n : Nat) (rows : List Place) (es : WE) : Option Place :=
  let e := ends rows es
  if e = [] then some (zeroP n) else
  let goals := (e.filter fun x => x.2 == 1).map (·.1)
  if e.length = 2 ∧ (zeroP n, -1) ∈ e ∧ goals.length = 1 then some (goals.headD []) else none
def roadI (i : Nat) (v : Int) : Wd := if v > 0 then List.replicate v.toNat (i, true) else List.replicate (-v).toNat (i, false)
def roadFrom : Nat → Place → Wd
  | _, [] => []
  | i, v :: p => roadI i v ++ roadFrom (i + 1) p
def road (p : Place) : Wd := roadFrom 0 p
def partOf (s : St3) : Wd :=
  let part := road s.1 ++ [(s.2.1, true)] ++ inv (road (stp s.1 s.2.1 1))
  (List.replicate s.2.2.natAbs (if s.2.2 > 0 then part else inv part)).flatten
def wordOf (es : WE) (e : Place) : Wd := short (((stS es).map partOf).flatten ++ road e)
/-- one is other less a multiple of c from 0 on -/
def isBefore (one other c : Place) : Bool :=
  let gap := subP other one
  let t := (gap.getD (leadP c) 0).fdiv (lead c)
  decide (t ≥ 0) && decide (gap = mulP t c)
def sumLeft (ss : List St3) (p : Place) (i : Nat) (c : Place) : Int := ss.foldl (fun t s => if (decide (s.2.1 = i) && isBefore s.1 p c) = true then t + s.2.2 else t) 0
def chainF (es : WE) (c : Place) (i : Nat) (r : Int) : Nat → Place → List St3
  | 0, _ => []
  | f + 1, p => (p, i, r) :: (if (getE es (addP p c, i)).getD 0 ≠ 0 then [] else chainF es c i r f (addP p c))
def fuel : Nat := 400
def summedL (es : WE) (c : Place) : List St3 :=
  ((stS es).map fun s => let r := sumLeft (stS es) s.1 s.2.1 c; if r = 0 then [] else chainF es c s.2.1 r fuel s.1).flatten
def shiftsM (a b : List St3) : List Place := match a with
  | [] => []
  | s :: _ => (b.filter fun x => decide (x.2.1 = s.2.1 ∧ x.2.2 = s.2.2)).map fun x => subP x.1 s.1
def movedW (rows : List Place) (es : WE) (d : Place) : WE := mkW rows ((stS es).map fun s => (addP s.1 d, s.2.1, s.2.2))
def minusW (rows : List Place) (a b : WE) : WE := mkW rows (stS a ++ (stS (mkW rows ((stS b).map fun s => (s.1, s.2.1, (-1) * s.2.2)))))
def freeW (p : Place) (w : Wd) : WE := mkW [] (streetsOf p w)
def turnedM (n : Nat) (one other : Wd) (shift : Place) : Wd :=
  let c := counts n one
  if c = zeroP n then road shift else
  let g := mkW [] (summedL (minusW [] (freeW (zeroP n) other) (freeW shift one)) c)
  wordOf g ((endOf n [] g).getD [])
def rolledW (n : Nat) (w : Wd) : WE := mkW (nrmR (counts n w)) (streetsOf (zeroP n) w)
def turnerM (n : Nat) (one other : Wd) : Option Wd :=
  if counts n one ≠ counts n other then none else
  let l := rolledW n one
  let r := rolledW n other
  if l = [] then (if r = [] then some [] else none) else
  match (shiftsM (stS l) (stS r)).find? fun d => decide (stS (movedW (nrmR (counts n one)) l d) = stS r) with
  | some d => some (turnedM n one other d)
  | none => none
theorem last1 : turnerM 2 [(0, true), (1, true), (0, false), (1, false)] [(1, true), (0, true), (1, false), (0, false)] = none := by decide +kernel
theorem last2 : turnerM 2 [(0, true), (0, true), (1, true), (0, false), (0, false), (1, false)] [(0, true), (1, true), (0, false), (1, false)] = none := by decide +kernel
end K35
/-! text D0 -/
set_option Elab.async false
set_option linter.all false
set_option maxRecDepth 100000
set_option maxHeartbeats 4000000
/-! scaffolding for the defs -/
namespace K35
open PySem PySem.Spec PyProof.Rows L2
def top (i : Nat) : Stmt := PySem.Challenge.pw_roundswap_k35_whole_words_that_do_not_tu.main.body.getD i (.Pass ⟨0, 0, 0, 0⟩)
/-- a plain def -/
abbrev FnP (K : PySem.W.Frag) (x qual : Str) (st : Stmt) (f : Addr) (fd : FuncData) : Prop := FunD K x qual (defArgs st) (defBody st) (defScope st) [] [] f fd
/-- a callee: its promise, where it stands -/
structure Cal (P : Program) (w : World) (K : PySem.W.Frag) (mg : Str → Option Value) (base : Heap) (k : Nat) (ps : List Str) (sp : Sp) (f : Addr) (fd : FuncData) : Prop where
  F : FnOk P w K mg base CX0 k f fd ps sp
  kp : PySem.W.keepIn K (.ref f) = true
  b : Binds K fd ps []
/-- the built-ins that the program does not bind -/
structure Fre (mg : Str → Option Value) : Prop where
  len : mg "len" = none
  isinstance : mg "isinstance" = none
  int : mg "int" = none
  bool : mg "bool" = none
  tuple : mg "tuple" = none
  all : mg "all" = none
  zip : mg "zip" = none
  abs : mg "abs" = none
  enumerate : mg "enumerate" = none
  range : mg "range" = none
  list : mg "list" = none
  sorted : mg "sorted" = none
  max : mg "max" = none
  dict : mg "dict" = none
section
variable {P : Program} {w : World} {K : PySem.W.Frag} {mg : Str → Option Value} {base : Heap} {f : Addr} {fd : FuncData} {k : Nat} {ps : List Str} {sp : Sp} {x qual : Str} {st : Stmt}
theorem FnP.cal (F : FnP K x qual st f fd) (ok : FnOk P w K mg base CX0 k f fd ps sp)
    (h : ∀ (kV doc pm : Value) (an : Option Addr) (cdv ct : Value) (us : List Value), us.length = ps.length → bindArgs (PySem.W.fnOf x qual (defArgs st) (defBody st) (defScope st) .none kV doc pm an cdv ct) ⟨us, []⟩ = pure (ps.zip us)) : Cal P w K mg base k ps sp f fd :=
  ⟨ok, F.kp, F.bindsN h⟩
end
section
variable {X : Cx} {k : Nat} {f : Addr} {fd : FuncData} {ps : List Str} {sp : Sp} {x : Str} {p pos : Pos} {e : Expr} {es : List Expr} {t : TA}
theorem pe_cal (c : Cal X.prog X.w X.K X.mg X.base k ps sp f fd) (hr : Room k X.A) (hg : Gl X x) (g : X.mg x = some (.ref f)) (ha : PA X (e :: es) t) (hdb : (x == ("__debug__" : Str)) = false := by decide)
    (he : starEach (e :: es) X.env = (false, eval e X.env) :: starEach es X.env := by rfl) (hpl : (backTo pos (starEach es X.env)).any (·.1) = false := by rfl) : PE X (.Call (.Name x p) (e :: es) [] pos) (tCall sp [] (fun _ _ _ => False) t) :=
  pe_call c.F hr hg g c.kp c.b .nil pass0 ha hdb he hpl
end
section
variable {X : Cx} {k : Nat} {f : Addr} {sp : Sp} {x : Str} {p pos : Pos} {e : Expr} {es : List Expr} {t : TA}
def tCalR (sp : Sp) (t : TA) : TE := fun σ H Q => t σ H fun vs H1 => sp vs H1 Q E0
theorem pe_calR (F : FnR X.prog X.w X.K X.mg X.base CX0 k f sp) (kp : PySem.W.keepIn X.K (.ref f) = true) (hr : Room k X.A) (hg : Gl X x) (g : X.mg x = some (.ref f)) (ha : PA X (e :: es) t) (hdb : (x == ("__debug__" : Str)) = false := by decide)
    (he : starEach (e :: es) X.env = (false, eval e X.env) :: starEach es X.env := by rfl) (hpl : (backTo pos (starEach es X.env)).any (·.1) = false := by rfl) : PE X (.Call (.Name x p) (e :: es) [] pos) (tCalR sp t) := by
  refine ⟨fun pins s σ H Q I h => ?_⟩
  refine wpAny_Call_Name_kw (ld_glob I hg g ?_ hdb)
  refine PySem.W.callWith_K (h₀ := X.base) I.ok.mod.kin kp (thn (ha.run pos pins s σ H _ I h) fun us s1 ⟨vs, H1, I1, r, q⟩ => ⟨I1.kIn, ?_⟩) he hpl
  exact wpAny_call (run_fnR F hr pass0 I1 r q)
end
def ecB : EC Bool where
  at_ := fun _ v i => v = .bl i
  dat := .bool
  keep := fun _ h => h
  dp := fun {K H v x} h => by subst h; exact .bl x
theorem all_bls {H : Hp} {vs : List V} {l : List Bool} (h : ecB.all H vs l) : vs = l.map V.bl := by
  induction h with
  | nil => rfl
  | cons a t ih => rw [List.map_cons, ← ih]; exact congrArg (· :: _) a
theorem fm_some {α β : Type} (f : α → β) : ∀ l : List α, l.filterMap (fun x => some (f x)) = l.map f
  | [] => rfl
  | x :: l => by rw [List.filterMap_cons, fm_some f l]; rfl
theorem LsE.strs {H : Hp} {a : Addr} {l : List Str} (h : LsE ecStr H a l) : H a = some (.lst (l.map V.str)) := by
  obtain ⟨vs, e, q⟩ := h
  rw [all_strs q] at e
  exact e
theorem LsE.ints {H : Hp} {a : Addr} {l : List Int} (h : LsE ecI H a l) : H a = some (.lst (l.map V.int)) := by
  obtain ⟨vs, e, q⟩ := h
  rw [all_ints q] at e
  exact e
theorem LsE.bls {H : Hp} {a : Addr} {l : List Bool} (h : LsE ecB H a l) : H a = some (.lst (l.map V.bl)) := by
  obtain ⟨vs, e, q⟩ := h
  rw [all_bls q] at e
  exact e
theorem e_len : (Str.ofString "").length = 0 := by decide +kernel
theorem join_wd (L : List Nat) : ∀ (l : List Wd), Txt.join (Str.ofString "") (l.map (wd L)) = wd L l.flatten := by
  intro l
  refine str_ext ?_
  show (Builtin.Str.glued (Str.ofString "") (l.map (wd L))).cps.toList = _
  rw [PySem.StrLaws.glued_eq_join]
  have key : ∀ (l : List Wd), (Str.join (Str.ofString "") (l.map (wd L))).cps.toList = l.flatten.map (cd L) := by
    intro l
    induction l with
    | nil => rfl
    | cons a r ih =>
      cases r with
      | nil => simp [Str.join, wd]
      | cons b r =>
        show ((wd L a ++ Str.ofString "" ++ Str.join (Str.ofString "") ((b :: r).map (wd L))) : Str).cps.toList = _
        rw [Str.cps_append, Array.toList_append, ih, Str.cps_append, Array.toList_append]
        have e0 : (Str.ofString "").cps.toList = [] := by decide +kernel
        rw [e0]
        simp [wd]
  rw [key]
  simp [wd]
theorem sum_wd (L : List Nat) : ∀ l : List Wd, ((l.map (wd L)).map (·.length)).sum = l.flatten.length
  | [] => rfl
  | x :: l => by
    rw [List.map_cons, List.map_cons, List.sum_cons, sum_wd L l, wd_len, List.flatten_cons, List.length_append]
/-- what join asks -/
theorem rd_join {K : PySem.W.Frag} {L : List Nat} {H : Hp} {D : Addr} {l : List Wd} {Q : VK} (h : LsE ecStr H D (l.map (wd L))) (hz : l.flatten.length ≤ 16777216) (q : Q (.str (wd L l.flatten)) H) :
    ∃ a p, ∃ ys : List Str, V.str (Str.ofString "") = .str a ∧ [V.ref D] = [V.ref p] ∧ (SqL K H p (ys.map V.str) ∨ SqT K H p (ys.map V.str)) ∧ (ys.map (·.length)).sum + ys.length * a.length ≤ 16777216 ∧ Q (.str (Txt.join a ys)) H :=
  ⟨_, D, _, rfl, rfl, .inl (.of h.strs), by rw [sum_wd, e_len, Nat.mul_zero]; exact hz, by rw [join_wd]; exact q⟩
theorem map_one (L : List Nat) (w : Wd) : (w.map fun g => wd L [g]) = (w.map fun g => [g]).map (wd L) := by rw [List.map_map]; rfl
theorem flat_one {α : Type} : ∀ l : List α, (l.map fun g => [g]).flatten = l
  | [] => rfl
  | x :: l => by
    rw [List.map_cons, List.flatten_cons, flat_one l]
    rfl
theorem rd_join1 {K : PySem.W.Frag} {L : List Nat} {H : Hp} {D : Addr} {w : Wd} {Q : VK} (h : LsE ecStr H D (w.map fun g => wd L [g])) (hz : w.length ≤ sizeLine) (q : Q (.str (wd L w)) H) :
    ∃ a p, ∃ ys : List Str, V.str (Str.ofString "") = .str a ∧ [V.ref D] = [V.ref p] ∧ (SqL K H p (ys.map V.str) ∨ SqT K H p (ys.map V.str)) ∧ (ys.map (·.length)).sum + ys.length * a.length ≤ 16777216 ∧ Q (.str (Txt.join a ys)) H := by
  rw [map_one] at h
  rw [sizeLine_eq] at hz
  exact rd_join h (by rw [flat_one]; exact hz) (by rw [flat_one]; exact q)
theorem walk_wd {L : List Nat} {w : Wd} : L2.Walk (Its (wd L w)) w.length (fun _ => True) (fun i H v H' => H' = H ∧ ∃ g, w[i]? = some g ∧ v = .str (wd L [g])) := by
  have h := walk_str (z := wd L w)
  have e : (wd L w).cps.size = w.length := wd_len L w
  rw [e] at h
  refine h.mono (fun _ q => q) fun i H x H' _ _ y => ?_
  obtain ⟨h1, c, h2, h3⟩ := y
  refine ⟨h1, ?_⟩
  have : (w.map (cd L))[i]? = some c := by simpa [wd] using h2
  rw [List.getElem?_map] at this
  cases e : w[i]? with
  | none => rw [e] at this; cases this
  | some g =>
    rw [e] at this
    simp at this
    subst this
    exact ⟨g, rfl, h3⟩
theorem walk_lt {L : List Nat} : L2.Walk (Its (lt L)) L.length (fun _ => True) (fun i H v H' => H' = H ∧ v = .str (wd L [(i, true)])) := by
  have h := walk_str (z := lt L)
  have e : (lt L).cps.size = L.length := by simp [lt]
  rw [e] at h
  refine h.mono (fun _ q => q) fun i H x H' hi _ y => ?_
  obtain ⟨h1, c, h2, h3⟩ := y
  refine ⟨h1, ?_⟩
  have h2 : L[i]? = some c := by simpa [lt] using h2
  rw [h3]
  congr 1
  refine str_ext ?_
  simp [wd, cd, List.getD_eq_getElem?_getD, h2]
theorem iteY {c : Bool} {a b : Prop} (hc : c = true) (h : a) : if c = true then a else b := by rw [if_pos hc]; exact h
theorem iteN {c : Bool} {a b : Prop} (hc : c = false) (h : b) : if c = true then a else b := by rw [if_neg (by rw [hc]; exact Bool.false_ne_true)]; exact h
theorem canAll : ∀ ds : List PyData, (∀ d ∈ ds, d.canLay0 = true) → PyData.canLayAll0 ds = true
  | [], _ => by simp [PyData.canLayAll0]
  | d :: ds, h => by
    rw [PyData.canLayAll0, h d (List.mem_cons_self ..), canAll ds fun x hx => h x (List.mem_cons_of_mem _ hx)]
    rfl
theorem depAll (n : Nat) : ∀ ds : List PyData, (∀ d ∈ ds, d.depth ≤ n) → PyData.depthAll ds ≤ n
  | [], _ => by simp [PyData.depthAll]
  | d :: ds, h => by
    rw [PyData.depthAll]
    have h1 := h d (List.mem_cons_self ..)
    have h2 := depAll n ds fun x hx => h x (List.mem_cons_of_mem _ hx)
    omega
/-- data of this kind are flat enough to be compared -/
structure Flat {α : Type} (E : EC α) (l : List α) : Prop where
  can : ∀ x ∈ l, (E.dat x).canLay0 = true
  dep : ∀ x ∈ l, (E.dat x).depth ≤ 8
theorem Flat.list {α : Type} {E : EC α} {l : List α} (h : Flat E l) : SeqAt.shaped (.list (l.map E.dat)) = true := by
  unfold SeqAt.shaped
  rw [Bool.and_eq_true]
  refine ⟨?_, decide_eq_true ?_⟩
  · rw [PyData.canLay0]
    exact canAll _ fun d hd => by
      obtain ⟨x, hx, rfl⟩ := List.mem_map.mp hd
      exact h.can x hx
  · rw [PyData.depth]
    have := depAll 8 (l.map E.dat) fun d hd => by
      obtain ⟨x, hx, rfl⟩ := List.mem_map.mp hd
      exact h.dep x hx
    omega
theorem Flat.tuple {α : Type} {E : EC α} {l : List α} (h : Flat E l) : SeqAt.shaped (.tuple (l.map E.dat)) = true := by
  unfold SeqAt.shaped
  rw [Bool.and_eq_true]
  refine ⟨?_, decide_eq_true ?_⟩
  · rw [PyData.canLay0]
    exact canAll _ fun d hd => by
      obtain ⟨x, hx, rfl⟩ := List.mem_map.mp hd
      exact h.can x hx
  · rw [PyData.depth]
    have := depAll 8 (l.map E.dat) fun d hd => by
      obtain ⟨x, hx, rfl⟩ := List.mem_map.mp hd
      exact h.dep x hx
    omega
theorem flat_I (l : List Int) : Flat ecI l := ⟨fun _ _ => by simp [ecI, PyData.canLay0], fun _ _ => by simp [ecI, PyData.depth]⟩
theorem can_P (p : Place) : (ecP.dat p).canLay0 = true := by
  show (PyData.tuple (p.map .int)).canLay0 = true
  rw [PyData.canLay0]
  exact canAll _ fun d hd => by
    obtain ⟨x, _, rfl⟩ := List.mem_map.mp hd
    simp [PyData.canLay0]
theorem dep_P (p : Place) : (ecP.dat p).depth ≤ 1 := by
  show (PyData.tuple (p.map .int)).depth ≤ 1
  rw [PyData.depth]
  have := depAll 0 (p.map PyData.int) fun d hd => by
    obtain ⟨x, _, rfl⟩ := List.mem_map.mp hd
    simp [PyData.depth]
  omega
theorem flat_P (l : List Place) : Flat ecP l := ⟨fun p _ => can_P p, fun p _ => Nat.le_trans (dep_P p) (by decide)⟩
theorem dep_S (s : St3) : (ecS.dat s).depth ≤ 2 := by
  have := dep_P s.1
  simp only [ecP] at this
  simp only [ecS, PyData.depth, PyData.depthAll] at this ⊢
  omega
theorem can_S (s : St3) : (ecS.dat s).canLay0 = true := by
  have := can_P s.1
  simp only [ecP] at this
  simp only [ecS, PyData.canLay0, PyData.canLayAll0] at this ⊢
  simp [this]
theorem flat_S (l : List St3) : Flat ecS l := ⟨fun p _ => can_S p, fun p _ => Nat.le_trans (dep_S p) (by decide)⟩
theorem dep_E (s : Place × Int) : (ecE.dat s).depth ≤ 2 := by
  have := dep_P s.1
  simp only [ecP] at this
  simp only [ecE, PyData.depth, PyData.depthAll] at this ⊢
  omega
theorem can_E (s : Place × Int) : (ecE.dat s).canLay0 = true := by
  have := can_P s.1
  simp only [ecP] at this
  simp only [ecE, PyData.canLay0, PyData.canLayAll0] at this ⊢
  simp [this]
theorem flat_E (l : List (Place × Int)) : Flat ecE l := ⟨fun p _ => can_E p, fun p _ => Nat.le_trans (dep_E p) (by decide)⟩
theorem flat_W {L : List Nat} (lg : LG L) {l : Wd} (h : WF L.length l) : Flat ecStr (l.map fun g => wd L [g]) := by
  refine ⟨fun x hx => ?_, fun x hx => ?_⟩
  · obtain ⟨g, hg, rfl⟩ := List.mem_map.mp hx
    have a := lg.at_ (h g hg)
    have e : (ecStr.dat (wd L [g])).canLay0 = decide (cd L g < 1114112) := by
      simp [ecStr, PyData.canLay0, PyData.strOk, wd]
    rw [e]
    have hb : ∀ c ∈ AB, c < 1114112 := by decide
    have := hb _ a
    unfold cd
    split
    · exact decide_eq_true this
    · exact decide_eq_true (by omega)
  · obtain ⟨g, _, rfl⟩ := List.mem_map.mp hx
    simp [ecStr, PyData.depth]
/-- what x != [] asks, x a list of data -/
theorem rd_neNil {α : Type} {E : EC α} {K : PySem.W.Frag} {H : Hp} {a b : Addr} {l : List α} {Q : VK} (hl : LsE E H a l) (fl : Flat E l) (hb : H b = some (.lst [])) (q : Q (.bl (!l.isEmpty)) H) : rNeD K (.ref a) (.ref b) H Q := by
  refine ⟨_, .list [], hl.dp, .lst (.of hb) .nil, fl.list, by decide +kernel, ?_⟩
  have e : PyData.eqv (.list (l.map E.dat)) (.list []) = l.isEmpty := by
    rw [PyData.eqv]
    cases l <;> simp [PyData.eqvAll]
  rw [e]
  exact q
theorem rd_eqNil {α : Type} {E : EC α} {K : PySem.W.Frag} {H : Hp} {a b : Addr} {l : List α} {Q : VK} (hl : LsE E H a l) (fl : Flat E l) (hb : H b = some (.lst [])) (q : Q (.bl l.isEmpty) H) : rEqD K (.ref a) (.ref b) H Q := by
  refine ⟨_, .list [], hl.dp, .lst (.of hb) .nil, fl.list, by decide +kernel, ?_⟩
  have e : PyData.eqv (.list (l.map E.dat)) (.list []) = l.isEmpty := by
    rw [PyData.eqv]
    cases l <;> simp [PyData.eqvAll]
  rw [e]
  exact q
theorem eqv_ints : ∀ p q : Place, PyData.eqvAll (p.map .int) (q.map .int) = decide (p = q)
  | [], [] => by simp [PyData.eqvAll]
  | [], y :: q => by simp [PyData.eqvAll]
  | x :: p, [] => by simp [PyData.eqvAll]
  | x :: p, y :: q => by
    rw [List.map_cons, List.map_cons, PyData.eqvAll, eqv_ints p q, PyData.eqv]
    by_cases h : x = y <;> by_cases h2 : p = q <;> simp [h, h2]
/-- what == of two tuples of ints asks -/
theorem rd_eqP {K : PySem.W.Frag} {H : Hp} {a b : Addr} {p q : Place} {Q : VK} (h1 : IT H a p) (h2 : IT H b q) (k : Q (.bl (decide (p = q))) H) : rEqD K (.ref a) (.ref b) H Q := by
  refine ⟨_, _, ecP.dp ⟨a, rfl, h1⟩, ecP.dp ⟨b, rfl, h2⟩, (flat_I p).tuple, (flat_I q).tuple, ?_⟩
  have e : PyData.eqv (ecP.dat p) (ecP.dat q) = decide (p = q) := by
    show PyData.eqv (.tuple (p.map .int)) (.tuple (q.map .int)) = _
    rw [PyData.eqv, eqv_ints]
  rw [e]
  exact k
theorem rd_neP {K : PySem.W.Frag} {H : Hp} {a b : Addr} {p q : Place} {Q : VK} (h1 : IT H a p) (h2 : IT H b q) (k : Q (.bl (!decide (p = q))) H) : rNeD K (.ref a) (.ref b) H Q := by
  refine ⟨_, _, ecP.dp ⟨a, rfl, h1⟩, ecP.dp ⟨b, rfl, h2⟩, (flat_I p).tuple, (flat_I q).tuple, ?_⟩
  have e : PyData.eqv (ecP.dat p) (ecP.dat q) = decide (p = q) := by
    show PyData.eqv (.tuple (p.map .int)) (.tuple (q.map .int)) = _
    rw [PyData.eqv, eqv_ints]
  rw [e]
  exact k
/-- what tuple(list of ints) asks -/
theorem rd_tupI {K : PySem.W.Frag} {H : Hp} {D : Addr} {l : List Int} {Q : VK} (h : LsE ecI H D l) (q : ∀ p, H p = none → Q (.ref p) (upd H p (.tup (l.map V.int)))) :
    ∃ p ys, [V.ref D] = [V.ref p] ∧ ((SqL K H p ys ∧ ∀ l, H l = none → Q (.ref l) (upd H l (.tup ys))) ∨ (SqT K H p ys ∧ Q (.ref p) H)) := ⟨D, _, rfl, .inl ⟨.of h.ints, q⟩⟩
theorem rd_tupE {α : Type} {E : EC α} {K : PySem.W.Frag} {H : Hp} {D : Addr} {l : List α} {Q : VK} (h : LsE E H D l) (q : ∀ p vs, H p = none → E.all H vs l → Q (.ref p) (upd H p (.tup vs))) :
    ∃ p ys, [V.ref D] = [V.ref p] ∧ ((SqL K H p ys ∧ ∀ l, H l = none → Q (.ref l) (upd H l (.tup ys))) ∨ (SqT K H p ys ∧ Q (.ref p) H)) := by
  obtain ⟨vs, e, r⟩ := h
  exact ⟨D, vs, rfl, .inl ⟨.of e, fun p hp => q p vs hp r⟩⟩
end K35
/-! text D1 -/
set_option Elab.async false
set_option linter.all false
set_option maxRecDepth 100000
set_option maxHeartbeats 4000000
/-! defs over words -/
namespace K35
open PySem PySem.Spec PyProof.Rows L2
section
variable {P : Program} {w : World} {K : PySem.W.Frag} {mg : Str → Option Value} {base : Heap} {f : Addr} {fd : FuncData}
/-! swapped -/
abbrev s_swapped : Stmt := top 27
theorem sc_swapped : FnScope ["character"] ["character"] (defScope s_swapped) := ⟨rfl, rfl, rfl, by decide +kernel, rfl, by decide +kernel, by decide +kernel⟩
def sp_swapped : Sp := fun vs H Q _ => ∃ (L : List Nat) (g : Sg), LG L ∧ g.1 < L.length ∧ vs = [.str (wd L [g])] ∧ Q (.str (wd L [flip g])) H
theorem wd1 (L : List Nat) (g : Sg) : wd L [g] = ⟨#[cd L g]⟩ := rfl
theorem c_swapped {tL : Tok} (F : FnP K "swapped" "swapped" s_swapped f fd) (gL : mg "LOWER" = some (.str LOW tL)) : Cal P w K mg base 1 ["character"] sp_swapped f fd := by
  refine F.cal (F.ok sc_swapped (fun vs H Q E h => ?_) (fun cdv A outer s H vs Q E hr h => ?_)) (fun _ _ _ _ _ _ us hl => match us, hl with | [_], _ => rfl)
  · obtain ⟨L, g, _, _, rfl, _⟩ := h
    rfl
  · obtain ⟨L, g, lg, hg, rfl, q⟩ := h
    refine ⟨_, PSs.nox (pss_one (ps_ret (pe_ifExp (pt_cmpR op_in_sign (pv 0) (pe_glob (v := .str LOW) rfl gL ⟨tL, rfl⟩) rfl) (pe_upper (pv 0)) (pe_lower (pv 0))))), ?_⟩
    refine ⟨_, rfl, cd L g, LOW, rfl, rfl, _, rfl, ?_⟩
    rw [lg.isLow hg]
    obtain ⟨i, b⟩ := g
    cases b
    · refine iteF ⟨_, rfl, ⟨_, rfl⟩, _, rfl, rfl, by show 1 ≤ 5592405; decide, ?_⟩
      rw [lg.lower hg]
      exact q
    · refine iteT ⟨_, rfl, ⟨_, rfl⟩, _, rfl, rfl, by show 1 ≤ 5592405; decide, ?_⟩
      rw [lg.upper hg]
      exact q
/-! opposite -/
abbrev s_opposite : Stmt := top 30
theorem sc_opposite : FnScope ["word", "character"] ["word"] (defScope s_opposite) := ⟨rfl, rfl, rfl, by decide +kernel, rfl, by decide +kernel, by decide +kernel⟩
def sp_opposite : Sp := fun vs H Q _ => ∃ (L : List Nat) (v : Wd), LG L ∧ WF L.length v ∧ v.length ≤ sizeLine ∧ vs = [.str (wd L v)] ∧ ∀ H', Same H H' → Q (.str (wd L (inv v))) H'
theorem c_opposite {fS : Addr} {fdS : FuncData} (F : FnP K "opposite" "opposite" s_opposite f fd) (cS : Cal P w K mg base 1 ["character"] sp_swapped fS fdS) (gS : mg "swapped" = some (.ref fS)) : Cal P w K mg base 2 ["word"] sp_opposite f fd := by
  refine F.cal (F.ok sc_opposite (fun vs H Q E h => ?_) (fun cdv A outer s H vs Q E hr h => ?_)) (fun _ _ _ _ _ _ us hl => match us, hl with | [_], _ => rfl)
  · obtain ⟨L, g, _, _, _, rfl, _⟩ := h
    rfl
  · obtain ⟨L, v, lg, hv, hz, rfl, q⟩ := h
    refine ⟨_, PSs.nox (pss_one (ps_ret (pe_join pe_str (pe_lc (own := [("character", 1)]) (g := gName 1) (tt := tYes) rfl sc_opposite.nd (pi_str (pe_revS (pv 0))) (blkOk_by (N := ["word", "character"]) (sc := defScope s_opposite) (by decide +kernel))
      (fun _ _ _ _ _ => pg_name (i := 1) sc_opposite.nd rfl (Or.inl rfl)) (fun _ _ _ _ _ => pts_nil) (fun _ _ _ _ _ => pe_cal cS hr rfl gS (pa_cons (pv 1) pa_nil)))))), ?_⟩
    refine ⟨⟨_, rfl⟩, _, rfl, _, rfl, by rw [wd_len]; exact hz, _, rfl, ?_⟩
    rw [wd_rev]
    intro D nD
    refine lc_gen walk_wd ecStr v.reverse (fun g => some (wd L [flip g])) nD rfl (by rw [List.length_reverse]; exact hz) (fun _ _ => trivial) (fun i x H1 H' b hb sm y N1 N0 k1 k0 => ?_) (fun H1 sm hl => ?_)
    · obtain ⟨rfl, g, hg, rfl⟩ := y
      obtain rfl : g = b := Option.some.inj (hg.symm.trans hb)
      refine ⟨rfl, _, rfl, L, g, lg, hv g (by have := List.mem_of_getElem? hb; simpa using this), rfl, k1 _ _ _ rfl rfl (Same.refl _)⟩
    · rw [fm_some] at hl
      have e : (List.map (fun g => wd L [flip g]) v.reverse) = (inv v).map fun g => wd L [g] := by simp [inv, List.map_map, Function.comp_def]
      rw [e] at hl
      exact rd_join1 hl (by simpa [inv] using hz) (q _ sm)
/-! _law_back, _law_gone_back -/
abbrev s__law_back : Stmt := top 56
theorem sc__law_back : FnScope ["_law_sign"] ["_law_sign"] (defScope s__law_back) := ⟨rfl, rfl, rfl, by decide +kernel, rfl, by decide +kernel, by decide +kernel⟩
theorem c__law_back (F : FnP K "_law_back" "_law_back" s__law_back f fd) : Cal P w K mg base 1 ["_law_sign"] sp_swapped f fd := by
  refine F.cal (F.ok sc__law_back (fun vs H Q E h => ?_) (fun cdv A outer s H vs Q E hr h => ?_)) (fun _ _ _ _ _ _ us hl => match us, hl with | [_], _ => rfl)
  · obtain ⟨L, g, _, _, rfl, _⟩ := h
    rfl
  · obtain ⟨L, g, lg, hg, rfl, q⟩ := h
    refine ⟨_, PSs.nox (pss_one (ps_ret (pe_ifExp (pt_cmpR op_eq (pv 0) (pe_lower (pv 0)) (nomark _)) (pe_upper (pv 0)) (pe_lower (pv 0))))), ?_⟩
    refine ⟨_, rfl, _, rfl, ⟨_, rfl⟩, _, rfl, rfl, by show 1 ≤ 5592405; decide, rfl, _, rfl, ?_⟩
    rw [lg.lower hg]
    have e : decide (V.str (wd L [g]) = V.str (wd L [(g.1, true)])) = g.2 := by
      obtain ⟨i, b⟩ := g
      cases b
      · refine decide_eq_false fun q => ?_
        injection q with q
        have q2 : cd L (i, false) = cd L (i, true) := by
          have := congrArg (fun z : Str => z.cps[0]?) q
          simpa [wd] using this
        exact absurd (lg.cd_inj (g := (i, false)) (k := (i, true)) hg hg q2) (by simp)
      · exact decide_eq_true rfl
    rw [e]
    obtain ⟨i, b⟩ := g
    cases b
    · refine iteF ⟨_, rfl, ⟨_, rfl⟩, _, rfl, rfl, by show 1 ≤ 5592405; decide, ?_⟩
      rw [lg.lower hg]
      exact q
    · refine iteT ⟨_, rfl, ⟨_, rfl⟩, _, rfl, rfl, by show 1 ≤ 5592405; decide, ?_⟩
      rw [lg.upper hg]
      exact q
abbrev s__law_gone_back : Stmt := top 58
theorem sc__law_gone_back : FnScope ["_law_one", "_law_sign"] ["_law_one"] (defScope s__law_gone_back) := ⟨rfl, rfl, rfl, by decide +kernel, rfl, by decide +kernel, by decide +kernel⟩
theorem c__law_gone_back {fS : Addr} {fdS : FuncData} (F : FnP K "_law_gone_back" "_law_gone_back" s__law_gone_back f fd) (cS : Cal P w K mg base 1 ["_law_sign"] sp_swapped fS fdS) (gS : mg "_law_back" = some (.ref fS)) : Cal P w K mg base 2 ["_law_one"] sp_opposite f fd := by
  refine F.cal (F.ok sc__law_gone_back (fun vs H Q E h => ?_) (fun cdv A outer s H vs Q E hr h => ?_)) (fun _ _ _ _ _ _ us hl => match us, hl with | [_], _ => rfl)
  · obtain ⟨L, g, _, _, _, rfl, _⟩ := h
    rfl
  · obtain ⟨L, v, lg, hv, hz, rfl, q⟩ := h
    refine ⟨_, PSs.nox (pss_one (ps_ret (pe_join pe_str (pe_lc (own := [("_law_sign", 1)]) (g := gName 1) (tt := tYes) rfl sc__law_gone_back.nd (pi_str (pe_revS (pv 0))) (blkOk_by (N := ["_law_one", "_law_sign"]) (sc := defScope s__law_gone_back) (by decide +kernel))
      (fun _ _ _ _ _ => pg_name (i := 1) sc__law_gone_back.nd rfl (Or.inl rfl)) (fun _ _ _ _ _ => pts_nil) (fun _ _ _ _ _ => pe_cal cS hr rfl gS (pa_cons (pv 1) pa_nil)))))), ?_⟩
    refine ⟨⟨_, rfl⟩, _, rfl, _, rfl, by rw [wd_len]; exact hz, _, rfl, ?_⟩
    rw [wd_rev]
    intro D nD
    refine lc_gen walk_wd ecStr v.reverse (fun g => some (wd L [flip g])) nD rfl (by rw [List.length_reverse]; exact hz) (fun _ _ => trivial) (fun i x H1 H' b hb sm y N1 N0 k1 k0 => ?_) (fun H1 sm hl => ?_)
    · obtain ⟨rfl, g, hg, rfl⟩ := y
      obtain rfl : g = b := Option.some.inj (hg.symm.trans hb)
      refine ⟨rfl, _, rfl, L, g, lg, hv g (by have := List.mem_of_getElem? hb; simpa using this), rfl, k1 _ _ _ rfl rfl (Same.refl _)⟩
    · rw [fm_some] at hl
      have e : (List.map (fun g => wd L [flip g]) v.reverse) = (inv v).map fun g => wd L [g] := by simp [inv, List.map_map, Function.comp_def]
      rw [e] at hl
      exact rd_join1 hl (by simpa [inv] using hz) (q _ sm)
/-! is_word -/
abbrev s_is_word : Stmt := top 28
theorem sc_is_word : FnScope ["word", "letters", "character"] ["word", "letters"] (defScope s_is_word) := ⟨rfl, rfl, rfl, by decide +kernel, rfl, by decide +kernel, by decide +kernel⟩
def sp_is_word : Sp := fun vs H Q _ => ∃ (L : List Nat) (v : Wd), LG L ∧ WF L.length v ∧ v.length ≤ sizeLine ∧ vs = [.str (wd L v), .str (lt L)] ∧ ∀ H', Same H H' → Q (.bl true) H'
theorem c_is_word {tL : Tok} (F : FnP K "is_word" "is_word" s_is_word f fd) (B : Fre mg) (gL : mg "LOWER" = some (.str LOW tL)) : Cal P w K mg base 1 ["word", "letters"] sp_is_word f fd := by
  refine F.cal (F.ok sc_is_word (fun vs H Q E h => ?_) (fun cdv A outer s H vs Q E hr h => ?_)) (fun _ _ _ _ _ _ us hl => match us, hl with | [_, _], _ => rfl)
  · obtain ⟨L, g, _, _, _, rfl, _⟩ := h
    rfl
  · obtain ⟨L, v, lg, hv, hz, rfl, q⟩ := h
    refine ⟨_, PSs.nox (pss_one (ps_ret (pe_callB (cr_all rfl) (by rfl) B.all (by decide +kernel) (pa_cons (pe_lc (own := [("character", 2)]) (g := gName 2) (tt := tYes) rfl sc_is_word.nd (pi_str (pv 0)) (blkOk_by (N := ["word", "letters", "character"]) (sc := defScope s_is_word) (by decide +kernel))
      (fun _ _ _ _ _ => pg_name (i := 2) sc_is_word.nd rfl (Or.inl rfl)) (fun _ _ _ _ _ => pts_nil)
      (fun _ _ _ _ _ => pe_and (pe_cmpR op_in_sign (pe_lower (pv 2)) (pv 1) rfl) (pe_one (pe_cmpR op_in_sign (pe_lower (pv 2)) (pe_glob (v := .str LOW) rfl gL ⟨tL, rfl⟩) rfl)))) pa_nil)))), ?_⟩
    refine ⟨_, rfl, _, rfl, fun D nD => ?_⟩
    refine lc_gen walk_wd ecB v (fun g => some true) nD rfl hz (fun _ _ => trivial) (fun i x H1 H' b hb sm y N1 N0 k1 k0 => ?_) (fun H1 sm hl => ?_)
    · obtain ⟨rfl, g, hg, rfl⟩ := y
      have hgl := hv g (List.mem_of_getElem? hg)
      have hl : Txt.lower (wd L [g]) = ⟨#[cd L (g.1, true)]⟩ := lg.lower hgl
      refine ⟨rfl, _, rfl, ⟨_, rfl⟩, _, rfl, rfl, by show 1 ≤ 5592405; decide, _, rfl, cd L (g.1, true), lt L, congrArg V.str hl, rfl, true, congrArg V.bl (lg.inL (g := (g.1, true)) hgl), ?_⟩
      refine iteT ⟨_, rfl, ⟨_, rfl⟩, _, rfl, rfl, by show 1 ≤ 5592405; decide, cd L (g.1, true), LOW, congrArg V.str hl, rfl, ?_⟩
      rw [lg.isLow (g := (g.1, true)) hgl]
      exact k1 _ _ _ rfl rfl (Same.refl _)
    · rw [fm_some] at hl
      refine ⟨D, _, rfl, .of hl.bls, ?_⟩
      have e : (List.map (fun _ => true) v).all id = true := by simp
      rw [e]
      exact q _ sm
end
end K35
/-! text D2 -/
set_option Elab.async false
set_option linter.all false
set_option maxRecDepth 100000
set_option maxHeartbeats 4000000
/-! defs over words, 2 -/
namespace K35
open PySem PySem.Spec PyProof.Rows L2
section
variable {P : Program} {w : World} {K : PySem.W.Frag} {mg : Str → Option Value} {base : Heap} {f : Addr} {fd : FuncData}
/-! check_words -/
abbrev s_check_words : Stmt := top 29
theorem sc_check_words : FnScope ["letters", "words", "at", "word"] ((["letters"] : List Str) ++ [("words" : Str)]) (defScope s_check_words) := ⟨rfl, rfl, rfl, by decide +kernel, rfl, by decide +kernel, by decide +kernel⟩
/-- letters, then words over them -/
def sp_check_words : Sp := fun vs H Q _ => ∃ (L : List Nat) (ws : List Wd), LG L ∧ (∀ v ∈ ws, WF L.length v ∧ v.length ≤ sizeLine) ∧ ws.length ≤ 2 ∧ vs = .str (lt L) :: ws.map (fun v => .str (wd L v)) ∧ ∀ H', Same H H' → Q .non H'
def sp_check_words0 : Sp := fun vs H Q _ => ∃ (L : List Nat) (ws : List Wd) (t : Addr), LG L ∧ (∀ v ∈ ws, WF L.length v ∧ v.length ≤ sizeLine) ∧ vs = [.str (lt L), .ref t] ∧ H t = some (.tup (ws.map fun v => .str (wd L v))) ∧ ∀ H', Same H H' → Q .non H'
theorem c_check_words {fS : Addr} {fdS : FuncData} (F : FnP K "check_words" "check_words" s_check_words f fd) (B : Fre mg) (cS : Cal P w K mg base 1 ["word", "letters"] sp_is_word fS fdS) (gS : mg "is_word" = some (.ref fS)) : FnR P w K mg base CX0 2 f sp_check_words := by
  obtain ⟨oc, od, dV, kV, doc, pm, an, cdv, ct, osl, rfl, lk, hcd, hD, _⟩ := F.ex
  have hd : dV = .none := by
    rcases hD with ⟨_, e⟩ | ⟨e, _⟩
    · exact e
    · exact absurd rfl e
  subst hd
  have R := StX.fn_star (CX := CX0) (P := P) (w := w) (mg := mg) (base := base) (k := 1) (pv := "words") (ps := ["letters"]) (sp := sp_check_words0) lk hcd sc_check_words StX.cxUp_none (fun us rest hl => match us, rest, hl with | [_], [], _ => rfl | [_], _ :: _, _ => rfl)
    (fun A outer s H vs Q E hr h => ?_)
  · refine R.imp fun vs H Q E h => ?_
    obtain ⟨L, ws, lg, hw, hl, rfl, q⟩ := h
    refine ⟨[.str (lt L)], ws.map (fun v => .str (wd L v)), rfl, rfl, by rw [List.length_map]; exact Nat.le_trans hl (by decide), fun p hp => ⟨L, ws, p, lg, hw, rfl, upd_same, fun H' sm => q H' ((same_new hp).trans sm)⟩⟩
  · obtain ⟨L, ws, t, lg, hw, rfl, ht, q⟩ := h
    refine ⟨_, PSs.nox (pss_one (ps_for PassesOwn.never rfl (pi_enumT rfl B.enumerate (pa_cons (pv 1) pa_nil)) (pg_tup rfl (pgs_cons (pg_name (i := 2) sc_check_words.nd rfl (.inl rfl)) (pgs_cons (pg_name (i := 3) sc_check_words.nd rfl (.inl rfl)) pgs_nil)))
      (pss_one (ps_if (pt_not (pt_val (pe_cal cS hr rfl gS (pa_cons (pv 3) (pa_cons (pv 0) pa_nil))))) (pss_one ps_never) pss_nil)))), ?_⟩
    refine ⟨_, rfl, t, _, rfl, .of ht, for_it walk_enumT (fun i σ H1 => ∃ y2 y3, σ = [some (.str (lt L)), some (.ref t), y2, y3] ∧ Same H H1) ⟨_, _, rfl, Same.refl _⟩ (fun i σ H1 _ ⟨_, _, _, sm⟩ => .of (sm _ _ ht)) (fun i x σ H1 H' hi p y => ?_) (fun σ H1 ⟨_, _, _, sm⟩ => q _ sm)⟩
    obtain ⟨_, _, rfl, sm⟩ := p
    obtain ⟨T, x1, x2, rfl, nT, rfl, e1, e2⟩ := y
    cases e1
    have e2 : (ws.map fun v => V.str (wd L v))[i]? = some x2 := e2
    rw [List.getElem?_map] at e2
    cases e3 : ws[i]? with
    | none => rw [e3] at e2; cases e2
    | some v =>
      rw [e3] at e2
      have e2 : V.str (wd L v) = x2 := Option.some.inj e2
      subst e2
      obtain ⟨hv1, hv2⟩ := hw v (List.mem_of_getElem? e3)
      refine ⟨T, _, rfl, .of upd_same, rfl, _, _, rfl, _, _, rfl, rfl, ?_⟩
      refine ⟨_, rfl, _, rfl, L, v, lg, hv1, hv2, rfl, fun H2 sm2 => ⟨true, rfl, ?_⟩⟩
      exact ⟨_, _, rfl, sm.trans ((same_new nT).trans sm2)⟩
theorem range_at {n i b : Nat} (h : (List.range n)[i]? = some b) : b = i ∧ i < n := by
  obtain ⟨hi, e⟩ := List.getElem?_eq_some_iff.mp h
  rw [List.length_range] at hi
  rw [List.getElem_range] at e
  exact ⟨e.symm, hi⟩
/-! counts_of, _law_number_of -/
abbrev s_counts_of : Stmt := top 32
theorem sc_counts_of : FnScope ["word", "letters", "letter"] ["word", "letters"] (defScope s_counts_of) := ⟨rfl, rfl, rfl, by decide +kernel, rfl, by decide +kernel, by decide +kernel⟩
def sp_counts_of : Sp := fun vs H Q _ => ∃ (L : List Nat) (v : Wd), LG L ∧ WF L.length v ∧ vs = [.str (wd L v), .str (lt L)] ∧ ∀ H' p, Same H H' → IT H' p (counts L.length v) → Q (.ref p) H'
theorem LG.len_le {L : List Nat} (lg : LG L) : L.length ≤ sizeLine := Nat.le_trans lg.le (by decide)
theorem c_counts_of {fS : Addr} {fdS : FuncData} (F : FnP K "counts_of" "counts_of" s_counts_of f fd) (B : Fre mg) (cS : Cal P w K mg base 1 ["character"] sp_swapped fS fdS) (gS : mg "swapped" = some (.ref fS)) : Cal P w K mg base 2 ["word", "letters"] sp_counts_of f fd := by
  refine F.cal (F.ok sc_counts_of (fun vs H Q E h => ?_) (fun cdv A outer s H vs Q E hr h => ?_)) (fun _ _ _ _ _ _ us hl => match us, hl with | [_, _], _ => rfl)
  · obtain ⟨L, g, _, _, rfl, _⟩ := h
    rfl
  · obtain ⟨L, v, lg, hv, rfl, q⟩ := h
    refine ⟨_, PSs.nox (pss_one (ps_ret (pe_callTy call_tuple_of (by rfl) B.tuple (by decide +kernel) (pa_cons (pe_lc (own := [("letter", 2)]) (g := gName 2) (tt := tYes) rfl sc_counts_of.nd (pi_str (pv 1)) (blkOk_by (N := ["word", "letters", "letter"]) (sc := defScope s_counts_of) (by decide +kernel))
      (fun _ _ _ _ _ => pg_name (i := 2) sc_counts_of.nd rfl (Or.inl rfl)) (fun _ _ _ _ _ => pts_nil)
      (fun _ _ _ _ _ => pe_op op_sub (pe_m1 PySem.F.slot_str_count PySem.F.type_str_count mt_count (pv 0) (pv 2)) (pe_m1 PySem.F.slot_str_count PySem.F.type_str_count mt_count (pv 0) (pe_cal cS hr rfl gS (pa_cons (pv 2) pa_nil))))) pa_nil)))), ?_⟩
    refine ⟨_, rfl, _, rfl, fun D nD => ?_⟩
    refine lc_gen walk_lt ecI (List.range L.length) (fun i => some (((v.count (i, true) : Nat) : Int) - ((v.count (i, false) : Nat) : Int))) nD (List.length_range) lg.len_le (fun _ _ => trivial) (fun i x H1 H' b hb sm y N1 N0 k1 k0 => ?_) (fun H1 sm hl => ?_)
    · obtain ⟨rfl, rfl⟩ := y
      obtain ⟨e, hi⟩ := range_at hb
      subst e
      refine ⟨rfl, _, rfl, ⟨_, rfl⟩, _, rfl, _, _, rfl, rfl, _, rfl, ⟨_, rfl⟩, _, rfl, L, (b, true), lg, hi, rfl, _, _, rfl, rfl, _, _, rfl, rfl, ?_⟩
      rw [lg.count hv hi, lg.count (g := flip (b, true)) hv hi]
      exact k1 _ _ _ rfl rfl (Same.refl _)
    · rw [fm_some] at hl
      exact rd_tupI hl fun p hp => q _ _ (sm.trans (same_new hp)) upd_same
abbrev s__law_number_of : Stmt := top 59
theorem sc__law_number_of : FnScope ["_law_one", "_law_letters_here", "_law_letter"] ["_law_one", "_law_letters_here"] (defScope s__law_number_of) := ⟨rfl, rfl, rfl, by decide +kernel, rfl, by decide +kernel, by decide +kernel⟩
theorem c__law_number_of (F : FnP K "_law_number_of" "_law_number_of" s__law_number_of f fd) (B : Fre mg) : Cal P w K mg base 1 ["_law_one", "_law_letters_here"] sp_counts_of f fd := by
  refine F.cal (F.ok sc__law_number_of (fun vs H Q E h => ?_) (fun cdv A outer s H vs Q E hr h => ?_)) (fun _ _ _ _ _ _ us hl => match us, hl with | [_, _], _ => rfl)
  · obtain ⟨L, g, _, _, rfl, _⟩ := h
    rfl
  · obtain ⟨L, v, lg, hv, rfl, q⟩ := h
    refine ⟨_, PSs.nox (pss_one (ps_ret (pe_callTy call_tuple_of (by rfl) B.tuple (by decide +kernel) (pa_cons (pe_lc (own := [("_law_letter", 2)]) (g := gName 2) (tt := tYes) rfl sc__law_number_of.nd (pi_str (pv 1)) (blkOk_by (N := ["_law_one", "_law_letters_here", "_law_letter"]) (sc := defScope s__law_number_of) (by decide +kernel))
      (fun _ _ _ _ _ => pg_name (i := 2) sc__law_number_of.nd rfl (Or.inl rfl)) (fun _ _ _ _ _ => pts_nil)
      (fun _ _ _ _ _ => pe_op op_sub (pe_m1 PySem.F.slot_str_count PySem.F.type_str_count mt_count (pv 0) (pv 2)) (pe_m1 PySem.F.slot_str_count PySem.F.type_str_count mt_count (pv 0) (pe_upper (pv 2))))) pa_nil)))), ?_⟩
    refine ⟨_, rfl, _, rfl, fun D nD => ?_⟩
    refine lc_gen walk_lt ecI (List.range L.length) (fun i => some (((v.count (i, true) : Nat) : Int) - ((v.count (i, false) : Nat) : Int))) nD (List.length_range) lg.len_le (fun _ _ => trivial) (fun i x H1 H' b hb sm y N1 N0 k1 k0 => ?_) (fun H1 sm hl => ?_)
    · obtain ⟨rfl, rfl⟩ := y
      obtain ⟨e, hi⟩ := range_at hb
      subst e
      refine ⟨rfl, _, rfl, ⟨_, rfl⟩, _, rfl, _, _, rfl, rfl, _, rfl, ⟨_, rfl⟩, _, rfl, ⟨_, rfl⟩, _, rfl, rfl, by show 1 ≤ 5592405; decide, _, _, rfl, rfl, _, _, rfl, rfl, ?_⟩
      rw [lg.upper (g := (b, true)) hi, lg.count hv hi, lg.count (g := (b, false)) hv hi]
      exact k1 _ _ _ rfl rfl (Same.refl _)
    · rw [fm_some] at hl
      exact rd_tupI hl fun p hp => q _ _ (sm.trans (same_new hp)) upd_same
/-! _law_signs -/
def allSg (n : Nat) : Wd := ((List.range n).map fun i => [(i, true), (i, false)]).flatten
abbrev s__law_signs : Stmt := top 55
theorem sc__law_signs : FnScope ["_law_letters_here", "_law_letter"] ["_law_letters_here"] (defScope s__law_signs) := ⟨rfl, rfl, rfl, by decide +kernel, rfl, by decide +kernel, by decide +kernel⟩
def sp__law_signs : Sp := fun vs H Q _ => ∃ (L : List Nat), LG L ∧ vs = [.str (lt L)] ∧ ∀ H', Same H H' → Q (.str (wd L (allSg L.length))) H'
theorem len_pairs {α : Type} (g : Nat → List α) (h : ∀ i, (g i).length = 2) : ∀ l : List Nat, ((l.map g).flatten).length = 2 * l.length
  | [] => rfl
  | x :: l => by
    rw [List.map_cons, List.flatten_cons, List.length_append, len_pairs g h l, h, List.length_cons]
    omega
theorem allSg_len (n : Nat) : (allSg n).length = 2 * n := by
  unfold allSg
  rw [len_pairs _ (fun _ => rfl), List.length_range]
theorem c__law_signs (F : FnP K "_law_signs" "_law_signs" s__law_signs f fd) : Cal P w K mg base 1 ["_law_letters_here"] sp__law_signs f fd := by
  refine F.cal (F.ok sc__law_signs (fun vs H Q E h => ?_) (fun cdv A outer s H vs Q E hr h => ?_)) (fun _ _ _ _ _ _ us hl => match us, hl with | [_], _ => rfl)
  · obtain ⟨L, _, rfl, _⟩ := h
    rfl
  · obtain ⟨L, lg, rfl, q⟩ := h
    refine ⟨_, PSs.nox (pss_one (ps_ret (pe_join pe_str (pe_lc (own := [("_law_letter", 1)]) (g := gName 1) (tt := tYes) rfl sc__law_signs.nd (pi_str (pv 0)) (blkOk_by (N := ["_law_letters_here", "_law_letter"]) (sc := defScope s__law_signs) (by decide +kernel))
      (fun _ _ _ _ _ => pg_name (i := 1) sc__law_signs.nd rfl (Or.inl rfl)) (fun _ _ _ _ _ => pts_nil)
      (fun _ _ _ _ _ => pe_op op_add_str (pv 1) (pe_upper (pv 1))))))), ?_⟩
    refine ⟨⟨_, rfl⟩, _, rfl, _, rfl, fun D nD => ?_⟩
    refine lc_gen walk_lt ecStr (List.range L.length) (fun i => some (wd L [(i, true), (i, false)])) nD (List.length_range) lg.len_le (fun _ _ => trivial) (fun i x H1 H' b hb sm y N1 N0 k1 k0 => ?_) (fun H1 sm hl => ?_)
    · obtain ⟨rfl, rfl⟩ := y
      obtain ⟨e, hi⟩ := range_at hb
      subst e
      refine ⟨rfl, _, rfl, _, rfl, ⟨_, rfl⟩, _, rfl, rfl, by show 1 ≤ 5592405; decide, _, _, rfl, rfl, ?_, ?_⟩
      · rw [lg.upper (g := (b, true)) hi]
        show 1 + 1 ≤ sizeLine
        decide
      · rw [lg.upper (g := (b, true)) hi, wd_app]
        exact k1 _ _ _ rfl rfl (Same.refl _)
    · rw [fm_some] at hl
      have e : (List.map (fun i => wd L [(i, true), (i, false)]) (List.range L.length)) = ((List.range L.length).map fun i => [(i, true), (i, false)]).map (wd L) := by rw [List.map_map]; rfl
      rw [e] at hl
      have hz := allSg_len L.length
      have := lg.le
      exact rd_join hl (by show (allSg L.length).length ≤ _; omega) (q _ sm)
/-! shortened -/
abbrev s_shortened : Stmt := top 31
theorem sc_shortened : FnScope ["word", "found", "character"] ["word"] (defScope s_shortened) := ⟨rfl, rfl, rfl, by decide +kernel, rfl, by decide +kernel, by decide +kernel⟩
def sp_shortened : Sp := fun vs H Q _ => ∃ (L : List Nat) (v : Wd), LG L ∧ WF L.length v ∧ v.length ≤ sizeLine ∧ vs = [.str (wd L v)] ∧ ∀ H', Same H H' → Q (.str (wd L (short v))) H'
theorem shortF_wf {n : Nat} {acc : Wd} {g : Sg} (h : WF n acc) (hg : g.1 < n) : WF n (shortF acc g) := by
  unfold shortF
  split
  · exact fun x hx => h x (List.dropLast_subset _ hx)
  · intro x hx
    rcases List.mem_append.mp hx with q | q
    · exact h x q
    · rw [List.mem_singleton.mp q]; exact hg
theorem shortF_len (acc : Wd) (g : Sg) : (shortF acc g).length ≤ acc.length + 1 := by
  unfold shortF
  split
  · rw [List.length_dropLast]; omega
  · simp
theorem short_wf {n : Nat} : ∀ (v acc : Wd), WF n acc → WF n v → WF n (v.foldl shortF acc)
  | [], _, h, _ => h
  | g :: v, acc, h, hv => short_wf v _ (shortF_wf h (hv g (List.mem_cons_self ..))) fun x hx => hv x (List.mem_cons_of_mem _ hx)
theorem short_len : ∀ (v acc : Wd), (v.foldl shortF acc).length ≤ acc.length + v.length
  | [], acc => by simp
  | g :: v, acc => by
    have h1 := short_len v (shortF acc g)
    have h2 := shortF_len acc g
    rw [List.foldl_cons, List.length_cons]
    omega
theorem c_shortened {fS : Addr} {fdS : FuncData} (F : FnP K "shortened" "shortened" s_shortened f fd) (cS : Cal P w K mg base 1 ["character"] sp_swapped fS fdS) (gS : mg "swapped" = some (.ref fS)) : Cal P w K mg base 2 ["word"] sp_shortened f fd := by
  refine F.cal (F.ok sc_shortened (fun vs H Q E h => ?_) (fun cdv A outer s H vs Q E hr h => ?_)) (fun _ _ _ _ _ _ us hl => match us, hl with | [_], _ => rfl)
  · obtain ⟨L, g, _, _, _, rfl, _⟩ := h
    rfl
  · obtain ⟨L, v, lg, hv, hz, rfl, q⟩ := h
    refine ⟨_, PSs.nox (pss_cons (ps_set (i := 1) sc_shortened.nd rfl (.inl rfl) (pe_lst pa_nil))
      (pss_cons (ps_for PassesOwn.never rfl (pi_str (pv 0)) (pg_name (i := 2) sc_shortened.nd rfl (.inl rfl))
        (pss_one (ps_if (PW.pt (pw_and (pt_cmpR (op_neD hr.units) (pv 1) (pe_lst pa_nil) (nomark _)) (pw_and1 (pt_cmpR op_eq (pe_ix ix_list (pv 1) (pe_un un_neg pe_int) (fun _ _ => rfl)) (pe_cal cS hr rfl gS (pa_cons (pv 2) pa_nil)) (nomark _)))))
          (pss_one (ps_expr (pe_bm0 PySem.F.plainAttrs_list PySem.F.slot_list_pop PySem.F.type_list_pop mt_pop (pv 1))))
          (pss_one (ps_expr (pe_bm PySem.F.plainAttrs_list PySem.F.slot_list_append PySem.F.type_list_append mt_append (pv 1) (pa_cons (pv 2) pa_nil)))))))
      (pss_one (ps_ret (pe_join pe_str (pv 1)))))), ?_⟩
    refine ⟨Nat.zero_le _, fun l nl => ?_⟩
    refine ⟨_, rfl, _, rfl, for_it walk_wd (fun i σ H1 => ∃ y, σ = [some (.str (wd L v)), some (.ref l), y] ∧ Same H H1 ∧ LsE ecStr H1 l (((v.take i).foldl shortF []).map fun g => wd L [g]))
      ⟨_, rfl, same_new nl, [], upd_same, .nil⟩ (fun _ _ _ _ _ => trivial) (fun i x σ H1 H' hi p y => ?_) (fun σ H1 p => ?_)⟩
    · obtain ⟨y0, rfl, sm, hl⟩ := p
      obtain ⟨rfl, g, hg, rfl⟩ := y
      have hgl := hv g (List.mem_of_getElem? hg)
      have hw : WF L.length ((v.take i).foldl shortF []) := short_wf _ _ (fun _ h => nomatch h) fun x hx => hv x (List.mem_of_mem_take hx)
      have hlen : ((v.take i).foldl shortF []).length ≤ i := by
        have h1 := short_len (v.take i) []
        have h2 := List.length_take_le i v
        simp at h1
        omega
      have hn : (v.take (i + 1)).foldl shortF [] = shortF ((v.take i).foldl shortF []) g := by rw [take_snoc hg, List.foldl_append]; rfl
      generalize (v.take i).foldl shortF [] = acc at hl hw hlen hn
      refine ⟨_, rfl, Nat.zero_le _, fun b nb => ?_⟩
      have smb : Same H' (upd H' b (.lst [])) := same_new nb
      refine rd_neNil (hl.same smb) (flat_W lg hw) upd_same ⟨_, rfl, ?_⟩
      have ls2 := hl.same smb
      have hls : (upd H' b (.lst [])) l = some (.lst (acc.map fun g => V.str (wd L [g]))) := by
        have := ls2.strs
        rw [List.map_map] at this
        exact this
      have app : acc.getLast? ≠ some (flip g) → ∀ H2, Same (upd H' b (.lst [])) H2 → ∃ y, [some (V.str (wd L v)), some (V.ref l), some (V.str (wd L [g]))] = [some (V.str (wd L v)), some (V.ref l), y] ∧ Same H (upd H2 l (.lst ((acc.map fun g => V.str (wd L [g])) ++ [V.str (wd L [g])]))) ∧ LsE ecStr (upd H2 l (.lst ((acc.map fun g => V.str (wd L [g])) ++ [V.str (wd L [g])]))) l (((v.take (i + 1)).foldl shortF []).map fun g => wd L [g]) := by
        intro hx H2 s2
        refine ⟨_, rfl, same_over (sm.trans (smb.trans s2)) nl, _, upd_same, ?_⟩
        rw [hn]
        unfold shortF
        rw [if_neg hx]
        have h1 := strs_all (H := upd H2 l (.lst ((acc.map fun g => V.str (wd L [g])) ++ [V.str (wd L [g])]))) ((acc ++ [g]).map fun g => wd L [g])
        rw [List.map_map, List.map_append] at h1
        exact h1
      have hlz : (acc.map fun g => V.str (wd L [g])).length < sizeLine := by
        rw [List.length_map]
        omega
      rcases List.eq_nil_or_concat acc with e | ⟨acc', z, e⟩
      · subst e
        refine iteF (iteF ?_)
        exact ⟨_, rfl, .inl ⟨rfl, _, .of hls⟩, _, rfl, l, _, _, rfl, rfl, hls, hlz, app (by simp) _ (Same.refl _)⟩
      · rw [List.concat_eq_append] at e
        subst e
        have hz1 : z.1 < L.length := hw z (by simp)
        refine iteY (by simp) ⟨_, rfl, _, rfl, l, _, _, _, rfl, rfl, .of hls, by rw [List.map_append]; exact atI_last _ _, _, rfl, L, g, lg, hgl, rfl, rfl, _, rfl, ?_⟩
        have ed : decide (V.str (wd L [z]) = V.str (wd L [flip g])) = decide (z = flip g) := by
          by_cases q1 : z = flip g
          · rw [q1]; simp
          · rw [decide_eq_false q1]
            refine decide_eq_false fun q2 => ?_
            injection q2 with q2
            have q3 : cd L z = cd L (flip g) := by
              have := congrArg (fun z : Str => z.cps[0]?) q2
              simpa [wd] using this
            exact q1 (lg.cd_inj hz1 hgl q3)
        rw [ed]
        by_cases q1 : z = flip g
        · subst q1
          rw [decide_eq_true rfl]
          refine iteT ?_
          refine ⟨_, rfl, .inl ⟨rfl, _, .of hls⟩, l, _, .str (wd L [flip g]), rfl, rfl, hls, by rw [List.map_append]; simp, ?_⟩
          refine ⟨_, rfl, same_over (sm.trans smb) nl, _, upd_same, ?_⟩
          rw [hn]
          unfold shortF
          rw [if_pos (by simp)]
          have h1 := strs_all (H := upd (upd H' b (.lst [])) l (.lst (List.map (fun g => V.str (wd L [g])) (acc' ++ [flip g])).dropLast)) ((acc' ++ [flip g]).dropLast.map fun g => wd L [g])
          rw [List.map_map] at h1
          rw [← List.map_dropLast]
          exact h1
        · rw [decide_eq_false q1]
          refine iteF ?_
          exact ⟨_, rfl, .inl ⟨rfl, _, .of hls⟩, _, rfl, l, _, _, rfl, rfl, hls, hlz, app (by simp [q1]) _ (Same.refl _)⟩
    · obtain ⟨y0, rfl, sm, hl⟩ := p
      rw [List.take_length] at hl
      refine ⟨⟨_, rfl⟩, _, rfl, rd_join1 hl ?_ (q _ sm)⟩
      have := short_len v []
      simp at this
      omega
end
end K35
/-! text D3 -/
set_option Elab.async false
set_option linter.all false
set_option maxRecDepth 100000
set_option maxHeartbeats 4000000
/-! defs over places (printed by mk_d3.py) -/
namespace K35
open PySem PySem.Spec PyProof.Rows L2
theorem zip_map {op : Int → Int → Int} : ∀ p q : Place, (p.zip q).map (fun x => op x.1 x.2) = List.zipWith (fun x y => op x y) p q
  | [], _ => by simp
  | _ :: _, [] => by simp
  | x :: p, y :: q => by simp [zip_map p q]
theorem zip_at {p q : Place} {i : Nat} {b : Int × Int} {x y : V} (hb : (p.zip q)[i]? = some b) (hx : (p.map V.int)[i]? = some x) (hy : (q.map V.int)[i]? = some y) : x = .int b.1 ∧ y = .int b.2 := by
  rw [List.getElem?_zip_eq_some] at hb
  rw [List.getElem?_map, hb.1] at hx
  rw [List.getElem?_map, hb.2] at hy
  exact ⟨(Option.some.inj hx).symm, (Option.some.inj hy).symm⟩
section
variable {P : Program} {w : World} {K : PySem.W.Frag} {mg : Str → Option Value} {base : Heap} {f : Addr} {fd : FuncData}
def sp_zip (op : Int → Int → Int) : Sp := fun vs H Q _ => ∃ (a b : Addr) (p q : Place), vs = [.ref a, .ref b] ∧ IT H a p ∧ IT H b q ∧ p.length ≤ sizeLine ∧ ∀ H' c, Same H H' → IT H' c (List.zipWith (fun x y => op x y) p q) → Q (.ref c) H'
def sp_scaled : Sp := fun vs H Q _ => ∃ (a : Addr) (p : Place) (k : Int), vs = [.ref a, .int k] ∧ IT H a p ∧ p.length ≤ sizeLine ∧ -(2 ^ 64) < k ∧ k < 2 ^ 64 ∧ ∀ H' c, Same H H' → IT H' c (mulP k p) → Q (.ref c) H'
abbrev s_plus : Stmt := top 16
theorem sc_plus : FnScope ["one", "other", "a", "b"] ["one", "other"] (defScope s_plus) := ⟨rfl, rfl, rfl, by decide +kernel, rfl, by decide +kernel, by decide +kernel⟩
theorem c_plus (F : FnP K "plus" "plus" s_plus f fd) (B : Fre mg) : Cal P w K mg base 1 ["one", "other"] (sp_zip fun x y => x + y) f fd := by
  refine F.cal (F.ok sc_plus (fun vs H Q E h => ?_) (fun cdv A outer s H vs Q E hr h => ?_)) (fun _ _ _ _ _ _ us hl => match us, hl with | [_, _], _ => rfl)
  · obtain ⟨a, b, p, q, rfl, _⟩ := h
    rfl
  · obtain ⟨a, b, p, q, rfl, ha, hb, hz, k⟩ := h
    refine ⟨_, PSs.nox (pss_one (ps_ret (pe_callTy call_tuple_of (by rfl) B.tuple (by decide +kernel) (pa_cons (pe_lc (own := [("a", 2), ("b", 3)]) (g := gTup K 2 (gCons (gName 2) (gCons (gName 3) gNil))) (tt := tYes) rfl sc_plus.nd (RZ.pi_zipA rfl B.zip (pa_cons (pv 0) (pa_cons (pv 1) pa_nil))) (blkOk_by (N := ["one", "other", "a", "b"]) (sc := defScope s_plus) (by decide +kernel))
      (fun _ _ _ _ _ => pg_tup rfl (pgs_cons (pg_name (i := 2) sc_plus.nd rfl (Or.inl rfl)) (pgs_cons (pg_name (i := 3) sc_plus.nd rfl (Or.inl rfl)) pgs_nil))) (fun _ _ _ _ _ => pts_nil)
      (fun _ _ _ _ _ => pe_op op_add (pv 2) (pv 3))) pa_nil)))), ?_⟩
    refine ⟨_, rfl, _, rfl, a, b, _, _, rfl, .inr ⟨.of ha, .of hb, fun D nD => ?_⟩⟩
    refine lc_gen (walk_zipT rfl) ecI (p.zip q) (fun x => some (x.1 + x.2)) nD (by simp) (by simp; omega) (fun H1 sm => ⟨.of (sm _ _ ha), .of (sm _ _ hb)⟩) (fun i x H1 H' z hz' sm y N1 N0 k1 k0 => ?_) (fun H1 sm hl => ?_)
    · obtain ⟨T, x1, x2, rfl, nT, rfl, e1, e2⟩ := y
      obtain ⟨rfl, rfl⟩ := zip_at hz' e1 e2
      exact ⟨T, _, rfl, .of upd_same, rfl, _, _, rfl, _, _, rfl, rfl, rfl, _, rfl, _, rfl, _, _, rfl, rfl, k1 _ _ _ rfl rfl (same_new nT)⟩
    · rw [fm_some, zip_map (op := fun x y => x + y)] at hl
      exact rd_tupI hl fun c hc => k _ _ (sm.trans (same_new hc)) upd_same
abbrev s_minus : Stmt := top 18
theorem sc_minus : FnScope ["one", "other", "a", "b"] ["one", "other"] (defScope s_minus) := ⟨rfl, rfl, rfl, by decide +kernel, rfl, by decide +kernel, by decide +kernel⟩
theorem c_minus (F : FnP K "minus" "minus" s_minus f fd) (B : Fre mg) : Cal P w K mg base 1 ["one", "other"] (sp_zip fun x y => x - y) f fd := by
  refine F.cal (F.ok sc_minus (fun vs H Q E h => ?_) (fun cdv A outer s H vs Q E hr h => ?_)) (fun _ _ _ _ _ _ us hl => match us, hl with | [_, _], _ => rfl)
  · obtain ⟨a, b, p, q, rfl, _⟩ := h
    rfl
  · obtain ⟨a, b, p, q, rfl, ha, hb, hz, k⟩ := h
    refine ⟨_, PSs.nox (pss_one (ps_ret (pe_callTy call_tuple_of (by rfl) B.tuple (by decide +kernel) (pa_cons (pe_lc (own := [("a", 2), ("b", 3)]) (g := gTup K 2 (gCons (gName 2) (gCons (gName 3) gNil))) (tt := tYes) rfl sc_minus.nd (RZ.pi_zipA rfl B.zip (pa_cons (pv 0) (pa_cons (pv 1) pa_nil))) (blkOk_by (N := ["one", "other", "a", "b"]) (sc := defScope s_minus) (by decide +kernel))
      (fun _ _ _ _ _ => pg_tup rfl (pgs_cons (pg_name (i := 2) sc_minus.nd rfl (Or.inl rfl)) (pgs_cons (pg_name (i := 3) sc_minus.nd rfl (Or.inl rfl)) pgs_nil))) (fun _ _ _ _ _ => pts_nil)
      (fun _ _ _ _ _ => pe_op op_sub (pv 2) (pv 3))) pa_nil)))), ?_⟩
    refine ⟨_, rfl, _, rfl, a, b, _, _, rfl, .inr ⟨.of ha, .of hb, fun D nD => ?_⟩⟩
    refine lc_gen (walk_zipT rfl) ecI (p.zip q) (fun x => some (x.1 - x.2)) nD (by simp) (by simp; omega) (fun H1 sm => ⟨.of (sm _ _ ha), .of (sm _ _ hb)⟩) (fun i x H1 H' z hz' sm y N1 N0 k1 k0 => ?_) (fun H1 sm hl => ?_)
    · obtain ⟨T, x1, x2, rfl, nT, rfl, e1, e2⟩ := y
      obtain ⟨rfl, rfl⟩ := zip_at hz' e1 e2
      exact ⟨T, _, rfl, .of upd_same, rfl, _, _, rfl, _, _, rfl, rfl, rfl, _, rfl, _, rfl, _, _, rfl, rfl, k1 _ _ _ rfl rfl (same_new nT)⟩
    · rw [fm_some, zip_map (op := fun x y => x - y)] at hl
      exact rd_tupI hl fun c hc => k _ _ (sm.trans (same_new hc)) upd_same
abbrev s__law_add : Stmt := top 60
theorem sc__law_add : FnScope ["_law_one", "_law_other", "_law_a", "_law_b"] ["_law_one", "_law_other"] (defScope s__law_add) := ⟨rfl, rfl, rfl, by decide +kernel, rfl, by decide +kernel, by decide +kernel⟩
theorem c__law_add (F : FnP K "_law_add" "_law_add" s__law_add f fd) (B : Fre mg) : Cal P w K mg base 1 ["_law_one", "_law_other"] (sp_zip fun x y => x + y) f fd := by
  refine F.cal (F.ok sc__law_add (fun vs H Q E h => ?_) (fun cdv A outer s H vs Q E hr h => ?_)) (fun _ _ _ _ _ _ us hl => match us, hl with | [_, _], _ => rfl)
  · obtain ⟨a, b, p, q, rfl, _⟩ := h
    rfl
  · obtain ⟨a, b, p, q, rfl, ha, hb, hz, k⟩ := h
    refine ⟨_, PSs.nox (pss_one (ps_ret (pe_callTy call_tuple_of (by rfl) B.tuple (by decide +kernel) (pa_cons (pe_lc (own := [("_law_a", 2), ("_law_b", 3)]) (g := gTup K 2 (gCons (gName 2) (gCons (gName 3) gNil))) (tt := tYes) rfl sc__law_add.nd (RZ.pi_zipA rfl B.zip (pa_cons (pv 0) (pa_cons (pv 1) pa_nil))) (blkOk_by (N := ["_law_one", "_law_other", "_law_a", "_law_b"]) (sc := defScope s__law_add) (by decide +kernel))
      (fun _ _ _ _ _ => pg_tup rfl (pgs_cons (pg_name (i := 2) sc__law_add.nd rfl (Or.inl rfl)) (pgs_cons (pg_name (i := 3) sc__law_add.nd rfl (Or.inl rfl)) pgs_nil))) (fun _ _ _ _ _ => pts_nil)
      (fun _ _ _ _ _ => pe_op op_add (pv 2) (pv 3))) pa_nil)))), ?_⟩
    refine ⟨_, rfl, _, rfl, a, b, _, _, rfl, .inr ⟨.of ha, .of hb, fun D nD => ?_⟩⟩
    refine lc_gen (walk_zipT rfl) ecI (p.zip q) (fun x => some (x.1 + x.2)) nD (by simp) (by simp; omega) (fun H1 sm => ⟨.of (sm _ _ ha), .of (sm _ _ hb)⟩) (fun i x H1 H' z hz' sm y N1 N0 k1 k0 => ?_) (fun H1 sm hl => ?_)
    · obtain ⟨T, x1, x2, rfl, nT, rfl, e1, e2⟩ := y
      obtain ⟨rfl, rfl⟩ := zip_at hz' e1 e2
      exact ⟨T, _, rfl, .of upd_same, rfl, _, _, rfl, _, _, rfl, rfl, rfl, _, rfl, _, rfl, _, _, rfl, rfl, k1 _ _ _ rfl rfl (same_new nT)⟩
    · rw [fm_some, zip_map (op := fun x y => x + y)] at hl
      exact rd_tupI hl fun c hc => k _ _ (sm.trans (same_new hc)) upd_same
abbrev s__law_less : Stmt := top 61
theorem sc__law_less : FnScope ["_law_one", "_law_other", "_law_a", "_law_b"] ["_law_one", "_law_other"] (defScope s__law_less) := ⟨rfl, rfl, rfl, by decide +kernel, rfl, by decide +kernel, by decide +kernel⟩
theorem c__law_less (F : FnP K "_law_less" "_law_less" s__law_less f fd) (B : Fre mg) : Cal P w K mg base 1 ["_law_one", "_law_other"] (sp_zip fun x y => x - y) f fd := by
  refine F.cal (F.ok sc__law_less (fun vs H Q E h => ?_) (fun cdv A outer s H vs Q E hr h => ?_)) (fun _ _ _ _ _ _ us hl => match us, hl with | [_, _], _ => rfl)
  · obtain ⟨a, b, p, q, rfl, _⟩ := h
    rfl
  · obtain ⟨a, b, p, q, rfl, ha, hb, hz, k⟩ := h
    refine ⟨_, PSs.nox (pss_one (ps_ret (pe_callTy call_tuple_of (by rfl) B.tuple (by decide +kernel) (pa_cons (pe_lc (own := [("_law_a", 2), ("_law_b", 3)]) (g := gTup K 2 (gCons (gName 2) (gCons (gName 3) gNil))) (tt := tYes) rfl sc__law_less.nd (RZ.pi_zipA rfl B.zip (pa_cons (pv 0) (pa_cons (pv 1) pa_nil))) (blkOk_by (N := ["_law_one", "_law_other", "_law_a", "_law_b"]) (sc := defScope s__law_less) (by decide +kernel))
      (fun _ _ _ _ _ => pg_tup rfl (pgs_cons (pg_name (i := 2) sc__law_less.nd rfl (Or.inl rfl)) (pgs_cons (pg_name (i := 3) sc__law_less.nd rfl (Or.inl rfl)) pgs_nil))) (fun _ _ _ _ _ => pts_nil)
      (fun _ _ _ _ _ => pe_op op_sub (pv 2) (pv 3))) pa_nil)))), ?_⟩
    refine ⟨_, rfl, _, rfl, a, b, _, _, rfl, .inr ⟨.of ha, .of hb, fun D nD => ?_⟩⟩
    refine lc_gen (walk_zipT rfl) ecI (p.zip q) (fun x => some (x.1 - x.2)) nD (by simp) (by simp; omega) (fun H1 sm => ⟨.of (sm _ _ ha), .of (sm _ _ hb)⟩) (fun i x H1 H' z hz' sm y N1 N0 k1 k0 => ?_) (fun H1 sm hl => ?_)
    · obtain ⟨T, x1, x2, rfl, nT, rfl, e1, e2⟩ := y
      obtain ⟨rfl, rfl⟩ := zip_at hz' e1 e2
      exact ⟨T, _, rfl, .of upd_same, rfl, _, _, rfl, _, _, rfl, rfl, rfl, _, rfl, _, rfl, _, _, rfl, rfl, k1 _ _ _ rfl rfl (same_new nT)⟩
    · rw [fm_some, zip_map (op := fun x y => x - y)] at hl
      exact rd_tupI hl fun c hc => k _ _ (sm.trans (same_new hc)) upd_same
abbrev s_scaled : Stmt := top 19
theorem sc_scaled : FnScope ["one", "times", "a"] ["one", "times"] (defScope s_scaled) := ⟨rfl, rfl, rfl, by decide +kernel, rfl, by decide +kernel, by decide +kernel⟩
theorem c_scaled (F : FnP K "scaled" "scaled" s_scaled f fd) (B : Fre mg) : Cal P w K mg base 1 ["one", "times"] sp_scaled f fd := by
  refine F.cal (F.ok sc_scaled (fun vs H Q E h => ?_) (fun cdv A outer s H vs Q E hr h => ?_)) (fun _ _ _ _ _ _ us hl => match us, hl with | [_, _], _ => rfl)
  · obtain ⟨a, b, p, rfl, _⟩ := h
    rfl
  · obtain ⟨a, p, k, rfl, ha, hz, k1, k2, q⟩ := h
    refine ⟨_, PSs.nox (pss_one (ps_ret (pe_callTy call_tuple_of (by rfl) B.tuple (by decide +kernel) (pa_cons (pe_lc (own := [("a", 2)]) (g := gName 2) (tt := tYes) rfl sc_scaled.nd (pi_tup (pv 0)) (blkOk_by (N := ["one", "times", "a"]) (sc := defScope s_scaled) (by decide +kernel))
      (fun _ _ _ _ _ => pg_name (i := 2) sc_scaled.nd rfl (Or.inl rfl)) (fun _ _ _ _ _ => pts_nil)
      (fun _ _ _ _ _ => pe_op op_mul (pv 1) (pv 2))) pa_nil)))), ?_⟩
    refine ⟨_, rfl, a, rfl, ⟨_, .of ha⟩, fun D nD => ?_⟩
    refine lc_gen walk_tup ecI p (fun x => some (k * x)) nD (by rw [List.length_map]) (by rw [List.length_map]; exact hz) (fun H1 sm => .of (sm _ _ ha)) (fun i x H1 H' z hz' sm y N1 N0 k3 k0 => ?_) (fun H1 sm hl => ?_)
    · obtain ⟨rfl, e⟩ := y
      rw [List.getElem?_map, hz'] at e
      have e := Option.some.inj e
      subst e
      exact ⟨rfl, _, rfl, _, rfl, _, _, rfl, rfl, .inl ⟨k1, k2⟩, k3 _ _ _ rfl rfl (Same.refl _)⟩
    · rw [fm_some] at hl
      exact rd_tupI hl fun c hc => q _ _ (sm.trans (same_new hc)) upd_same
abbrev s__law_by : Stmt := top 62
theorem sc__law_by : FnScope ["_law_one", "_law_times", "_law_a"] ["_law_one", "_law_times"] (defScope s__law_by) := ⟨rfl, rfl, rfl, by decide +kernel, rfl, by decide +kernel, by decide +kernel⟩
theorem c__law_by (F : FnP K "_law_by" "_law_by" s__law_by f fd) (B : Fre mg) : Cal P w K mg base 1 ["_law_one", "_law_times"] sp_scaled f fd := by
  refine F.cal (F.ok sc__law_by (fun vs H Q E h => ?_) (fun cdv A outer s H vs Q E hr h => ?_)) (fun _ _ _ _ _ _ us hl => match us, hl with | [_, _], _ => rfl)
  · obtain ⟨a, b, p, rfl, _⟩ := h
    rfl
  · obtain ⟨a, p, k, rfl, ha, hz, k1, k2, q⟩ := h
    refine ⟨_, PSs.nox (pss_one (ps_ret (pe_callTy call_tuple_of (by rfl) B.tuple (by decide +kernel) (pa_cons (pe_lc (own := [("_law_a", 2)]) (g := gName 2) (tt := tYes) rfl sc__law_by.nd (pi_tup (pv 0)) (blkOk_by (N := ["_law_one", "_law_times", "_law_a"]) (sc := defScope s__law_by) (by decide +kernel))
      (fun _ _ _ _ _ => pg_name (i := 2) sc__law_by.nd rfl (Or.inl rfl)) (fun _ _ _ _ _ => pts_nil)
      (fun _ _ _ _ _ => pe_op op_mul (pv 1) (pv 2))) pa_nil)))), ?_⟩
    refine ⟨_, rfl, a, rfl, ⟨_, .of ha⟩, fun D nD => ?_⟩
    refine lc_gen walk_tup ecI p (fun x => some (k * x)) nD (by rw [List.length_map]) (by rw [List.length_map]; exact hz) (fun H1 sm => .of (sm _ _ ha)) (fun i x H1 H' z hz' sm y N1 N0 k3 k0 => ?_) (fun H1 sm hl => ?_)
    · obtain ⟨rfl, e⟩ := y
      rw [List.getElem?_map, hz'] at e
      have e := Option.some.inj e
      subst e
      exact ⟨rfl, _, rfl, _, rfl, _, _, rfl, rfl, .inl ⟨k1, k2⟩, k3 _ _ _ rfl rfl (Same.refl _)⟩
    · rw [fm_some] at hl
      exact rd_tupI hl fun c hc => q _ _ (sm.trans (same_new hc)) upd_same
/-! _law_unit -/
def unitP (n at_ : Nat) : Place := (List.range n).map fun k => if k = at_ then 1 else 0
abbrev s__law_unit : Stmt := top 63
theorem sc__law_unit : FnScope ["_law_width", "_law_at", "_law_k"] ["_law_width", "_law_at"] (defScope s__law_unit) := ⟨rfl, rfl, rfl, by decide +kernel, rfl, by decide +kernel, by decide +kernel⟩
def sp__law_unit : Sp := fun vs H Q _ => ∃ (n i : Nat), vs = [.int (n : Int), .int (i : Int)] ∧ n ≤ 3 ∧ ∀ H' c, Same H H' → IT H' c (unitP n i) → Q (.ref c) H'
theorem c__law_unit (F : FnP K "_law_unit" "_law_unit" s__law_unit f fd) (B : Fre mg) : Cal P w K mg base 1 ["_law_width", "_law_at"] sp__law_unit f fd := by
  refine F.cal (F.ok sc__law_unit (fun vs H Q E h => ?_) (fun cdv A outer s H vs Q E hr h => ?_)) (fun _ _ _ _ _ _ us hl => match us, hl with | [_, _], _ => rfl)
  · obtain ⟨a, b, rfl, _⟩ := h
    rfl
  · obtain ⟨n, i, rfl, hn, q⟩ := h
    refine ⟨_, PSs.nox (pss_one (ps_ret (pe_callTy call_tuple_of (by rfl) B.tuple (by decide +kernel) (pa_cons (pe_lc (own := [("_law_k", 2)]) (g := gName 2) (tt := tYes) rfl sc__law_unit.nd (pi_range1 rfl B.range (pa_cons (pv 0) pa_nil)) (blkOk_by (N := ["_law_width", "_law_at", "_law_k"]) (sc := defScope s__law_unit) (by decide +kernel))
      (fun _ _ _ _ _ => pg_name (i := 2) sc__law_unit.nd rfl (Or.inl rfl)) (fun _ _ _ _ _ => pts_nil)
      (fun _ _ _ _ _ => pe_callTy call_int1 (by rfl) B.int (by decide +kernel) (pa_cons (pe_cmp (pc_eqI (pv 2) (pv 1)) rfl) pa_nil))) pa_nil)))), ?_⟩
    refine ⟨_, rfl, _, rfl, by omega, by omega, fun D nD => ?_⟩
    rw [Int.toNat_natCast]
    refine lc_gen walk_range ecI (List.range n) (fun k => some (if k = i then 1 else 0)) nD List.length_range (Nat.le_trans hn (by decide)) (fun _ _ => trivial) (fun j x H1 H' z hz' sm y N1 N0 k3 k0 => ?_) (fun H1 sm hl => ?_)
    · obtain ⟨rfl, rfl⟩ := y
      obtain ⟨e, hj⟩ := range_at hz'
      subst e
      refine ⟨rfl, _, rfl, _, rfl, _, _, rfl, rfl, .inr ⟨_, rfl, k3 _ _ _ rfl ?_ (Same.refl _)⟩⟩
      show V.int _ = V.int _
      congr 1
      by_cases e : z = i
      · subst e; simp
      · simp [e]
        omega
    · rw [fm_some] at hl
      exact rd_tupI hl fun c hc => q _ _ (sm.trans (same_new hc)) upd_same
/-! the places of what is not zero -/
def idxs (p : Place) : List Nat := (List.range p.length).filter fun i => p.getD i 0 != 0
theorem idxs_fm (p : Place) : (List.range p.length).filterMap (fun i => if p.getD i 0 = 0 then none else some i) = idxs p := by
  unfold idxs
  rw [← List.filterMap_eq_filter]
  refine fm_congr fun i _ => ?_
  by_cases h : p.getD i 0 = 0
  · simp [h, Option.guard]
  · simp [h, Option.guard]
def isZ (p : Place) : Bool := p.all fun x => x == 0
theorem isZ_at {p : Place} (h : isZ p = true) (i : Nat) : p.getD i 0 = 0 := by
  rw [List.getD_eq_getElem?_getD]
  cases e : p[i]? with
  | none => rfl
  | some x => exact eq_of_beq (List.all_eq_true.mp h x (List.mem_of_getElem? e))
theorem idxs_none {p : Place} (h : isZ p = true) : idxs p = [] := by
  unfold idxs
  rw [List.filter_eq_nil_iff]
  intro i _ q
  rw [isZ_at h i] at q
  exact absurd q (by decide)
theorem lead_lt {p : Place} (h : isZ p = false) : leadP p < p.length := by
  refine List.findIdx_lt_length_of_exists ?_
  obtain ⟨x, hx, q⟩ := List.all_eq_false.mp h
  exact ⟨x, hx, by simpa using q⟩
theorem lead_ne {p : Place} (h : isZ p = false) : lead p ≠ 0 := by
  have hl := lead_lt h
  have e := List.findIdx_getElem (w := hl)
  unfold lead
  rw [List.getD_eq_getElem?_getD, List.getElem?_eq_getElem hl]
  have e' : (p[leadP p] != 0) = true := e
  simpa using e'
theorem idxs_some {p : Place} (h : isZ p = false) : ∃ r, idxs p = leadP p :: r := by
  have hl := lead_lt h
  have hn := lead_ne h
  unfold idxs
  have e : List.range p.length = List.range (leadP p) ++ (leadP p :: (List.range' (leadP p + 1) (p.length - leadP p - 1))) := by
    rw [List.range_eq_range', List.range_eq_range', ← List.range'_succ]
    have e1 : p.length = leadP p + (p.length - leadP p - 1 + 1) := by omega
    conv => lhs; rw [e1]
    rw [← List.range'_append_1, Nat.zero_add]
  rw [e, List.filter_append, List.filter_cons]
  have e1 : (List.range (leadP p)).filter (fun i => p.getD i 0 != 0) = [] := by
    rw [List.filter_eq_nil_iff]
    intro i hi q
    have hi' := List.mem_range.mp hi
    have := List.not_of_lt_findIdx hi'
    have hil : i < p.length := by omega
    rw [List.getD_eq_getElem?_getD, List.getElem?_eq_getElem hil] at q
    exact absurd q (by simpa using this)
  have e2 : (p.getD (leadP p) 0 != 0) = true := by simpa [lead] using hn
  rw [e1, e2]
  exact ⟨_, rfl⟩
theorem neZ_no {v : Int} (e : v = 0) : (!decide (V.int v = V.int 0)) = false := by subst e; rfl
theorem neZ_yes {v : Int} (e : v ≠ 0) : (!decide (V.int v = V.int 0)) = true := by
  rw [decide_eq_false fun q => e (V.int.inj q)]
  rfl
/-! _law_first_at -/
def firstAt (p : Place) : V := if isZ p = true then .non else .int ((leadP p : Nat) : Int)
abbrev s__law_first_at : Stmt := top 64
theorem sc__law_first_at : FnScope ["_law_row", "_law_spots", "_law_at"] ["_law_row"] (defScope s__law_first_at) := ⟨rfl, rfl, rfl, by decide +kernel, rfl, by decide +kernel, by decide +kernel⟩
def sp__law_first_at : Sp := fun vs H Q _ => ∃ (a : Addr) (p : Place), vs = [.ref a] ∧ IT H a p ∧ p.length ≤ 3 ∧ ∀ H', Same H H' → Q (firstAt p) H'
theorem int_at {p : Place} {i : Nat} (h : i < p.length) : (p.map V.int)[i]? = some (.int (p.getD i 0)) := by
  rw [List.getElem?_map, List.getElem?_eq_getElem h, List.getD_eq_getElem?_getD, List.getElem?_eq_getElem h]
  rfl
theorem c__law_first_at (F : FnP K "_law_first_at" "_law_first_at" s__law_first_at f fd) (B : Fre mg) : Cal P w K mg base 1 ["_law_row"] sp__law_first_at f fd := by
  refine F.cal (F.ok sc__law_first_at (fun vs H Q E h => ?_) (fun cdv A outer s H vs Q E hr h => ?_)) (fun _ _ _ _ _ _ us hl => match us, hl with | [_], _ => rfl)
  · obtain ⟨a, b, rfl, _⟩ := h
    rfl
  · obtain ⟨a, p, rfl, ha, hn, q⟩ := h
    refine ⟨_, PSs.nox (pss_cons (ps_setLc (i := 1) (own := [("_law_at", 2)]) (g := gName 2) rfl sc__law_first_at.nd rfl rfl (sw_true rfl rfl rfl (by decide +kernel)) (pi_range1 rfl B.range (pa_cons (pe_callB call_len_seq (by rfl) B.len PySem.boot_len (pa_cons (pv 0) pa_nil)) pa_nil)) (blkOk_by (N := ["_law_row", "_law_spots", "_law_at"]) (sc := defScope s__law_first_at) (by decide +kernel))
      (fun _ _ _ _ _ => pg_name (i := 2) sc__law_first_at.nd rfl (Or.inl rfl)) (fun _ _ _ _ _ => pts_one (pt_cmpR op_ne (pe_ix (r := rIxT K) ix_tup (pv 0) (pv 2) (fun _ _ => rfl)) pe_int (nomark _)))
      (fun _ _ _ _ _ => pv 2))
      (pss_one (ps_ret (pe_ifExp (pt_cmpR (op_neD hr.units) (pv 1) (pe_lst pa_nil) (nomark _)) (pe_ix ix_list (pv 1) pe_int (fun _ _ => rfl)) pe_non)))), ?_⟩
    refine ⟨_, rfl, a, _, rfl, .inr (.of ha), _, rfl, by omega, by rw [List.length_map]; omega, fun D nD => ?_⟩
    rw [Int.toNat_natCast, List.length_map]
    have hp3 : p.length ≤ sizeLine := Nat.le_trans hn (by decide)
    refine lc_gen walk_range ecN (List.range p.length) (fun k => if p.getD k 0 = 0 then none else some k) nD List.length_range hp3 (fun _ _ => trivial) (fun j x H1 H' z hz' sm y N1 N0 k3 k0 => ?_) (fun H1 sm hl => ?_)
    · obtain ⟨rfl, rfl⟩ := y
      obtain ⟨e, hj⟩ := range_at hz'
      subst e
      refine ⟨rfl, _, rfl, _, rfl, a, _, _, _, rfl, rfl, .of (sm _ _ ha), by rw [show ((0 : Int) + ((z : Nat) : Int)) = ((z : Nat) : Int) by omega]; exact atI_nat (int_at hj), rfl, _, rfl, ?_⟩
      by_cases e : p.getD z 0 = 0
      · refine iteN (neZ_no e) (k0 _ (if_pos e) (Same.refl _))
      · refine iteY (neZ_yes e) ⟨_, rfl, k3 z _ _ (if_neg e) (by show V.int _ = V.int _; congr 1; omega) (Same.refl _)⟩
    · rw [idxs_fm] at hl
      refine ⟨_, rfl, Nat.zero_le _, fun b nb => ?_⟩
      have smb : Same H1 (upd H1 b (.lst [])) := same_new nb
      refine rd_neNil (hl.same smb) ⟨fun _ _ => by simp [ecN, PyData.canLay0], fun _ _ => by simp [ecN, PyData.depth]⟩ upd_same ⟨_, rfl, ?_⟩
      have q2 := q _ (sm.trans smb)
      unfold firstAt at q2
      cases hz : isZ p with
      | true =>
        rw [hz, if_pos rfl] at q2
        exact iteN (by rw [idxs_none hz]; rfl) q2
      | false =>
        rw [hz, if_neg (by decide)] at q2
        obtain ⟨r, er⟩ := idxs_some hz
        obtain ⟨vs, e1, e2⟩ := hl.same smb
        rw [er] at e2
        cases e2 with
        | cons e3 e4 =>
          refine iteY (by rw [er]; rfl) ⟨_, rfl, D, _, 0, _, rfl, rfl, .of e1, atI_nat (j := 0) rfl, ?_⟩
          rw [show _ = _ from e3]
          exact q2
end
end K35
/-! text D4 -/
set_option Elab.async false
set_option linter.all false
set_option maxRecDepth 100000
set_option maxHeartbeats 4000000
/-! defs over places, 2 -/
namespace K35
open PySem PySem.Spec PyProof.Rows L2
section
variable {P : Program} {w : World} {K : PySem.W.Frag} {mg : Str → Option Value} {base : Heap} {f : Addr} {fd : FuncData}
/-! lead_of -/
abbrev s_lead_of : Stmt := top 20
theorem sc_lead_of : FnScope ["row", "at", "value"] ["row"] (defScope s_lead_of) := ⟨rfl, rfl, rfl, by decide +kernel, rfl, by decide +kernel, by decide +kernel⟩
def sp_lead_of : Sp := fun vs H Q _ => ∃ (a : Addr) (p : Place), vs = [.ref a] ∧ IT H a p ∧ isZ p = false ∧ p.length ≤ 3 ∧ ∀ H', Same H H' → Q (.int ((leadP p : Nat) : Int)) H'
theorem c_lead_of (F : FnP K "lead_of" "lead_of" s_lead_of f fd) (B : Fre mg) : Cal P w K mg base 1 ["row"] sp_lead_of f fd := by
  refine F.cal (F.ok sc_lead_of (fun vs H Q E h => ?_) (fun cdv A outer s H vs Q E hr h => ?_)) (fun _ _ _ _ _ _ us hl => match us, hl with | [_], _ => rfl)
  · obtain ⟨a, b, rfl, _⟩ := h
    rfl
  · obtain ⟨a, p, rfl, ha, hz, hn, q⟩ := h
    refine ⟨_, PSs.nox (pss_one (ps_ret (pe_ix ix_list (pe_lc (own := [("at", 1), ("value", 2)]) (g := gTup K 2 (gCons (gName 1) (gCons (gName 2) gNil))) rfl sc_lead_of.nd (pi_enumT rfl B.enumerate (pa_cons (pv 0) pa_nil)) (blkOk_by (N := ["row", "at", "value"]) (sc := defScope s_lead_of) (by decide +kernel))
      (fun _ _ _ _ _ => pg_tup rfl (pgs_cons (pg_name (i := 1) sc_lead_of.nd rfl (Or.inl rfl)) (pgs_cons (pg_name (i := 2) sc_lead_of.nd rfl (Or.inl rfl)) pgs_nil))) (fun _ _ _ _ _ => pts_one (pt_cmpR op_ne (pv 2) pe_int (nomark _)))
      (fun _ _ _ _ _ => pv 1)) pe_int (fun _ _ => rfl)))), ?_⟩
    refine ⟨_, rfl, a, _, rfl, .of ha, fun D nD => ?_⟩
    have hp3 : p.length ≤ sizeLine := Nat.le_trans hn (by decide)
    refine lc_gen walk_enumT ecN (List.range p.length) (fun k => if p.getD k 0 = 0 then none else some k) nD (by rw [List.length_range, List.length_map]) (by rw [List.length_map]; exact hp3) (fun H1 sm => .of (sm _ _ ha)) (fun j x H1 H' z hz' sm y N1 N0 k3 k0 => ?_) (fun H1 sm hl => ?_)
    · obtain ⟨T, x1, x2, rfl, nT, rfl, e1, e2⟩ := y
      obtain ⟨e, hj⟩ := range_at hz'
      subst e
      have e1 := (Option.some.inj e1).symm
      have e2 := Option.some.inj ((int_at hj).symm.trans e2)
      subst e1 e2
      refine ⟨T, _, rfl, .of upd_same, rfl, _, _, rfl, _, _, rfl, rfl, rfl, _, rfl, rfl, _, rfl, ?_⟩
      by_cases e : p.getD z 0 = 0
      · exact iteN (neZ_no e) (k0 _ (if_pos e) (same_new nT))
      · exact iteY (neZ_yes e) ⟨_, rfl, k3 z _ _ (if_neg e) rfl (same_new nT)⟩
    · rw [idxs_fm] at hl
      obtain ⟨r, er⟩ := idxs_some hz
      obtain ⟨vs, e1, e2⟩ := hl
      rw [er] at e2
      cases e2 with
      | cons e3 e4 =>
        refine ⟨D, _, 0, _, rfl, rfl, .of e1, atI_nat (j := 0) rfl, ?_⟩
        rw [show _ = _ from e3]
        exact q _ sm
/-! is_number, is_counts, check_counts -/
abbrev s_is_number : Stmt := top 13
theorem sc_is_number : FnScope ["value"] ["value"] (defScope s_is_number) := ⟨rfl, rfl, rfl, by decide +kernel, rfl, by decide +kernel, by decide +kernel⟩
def sp_is_number : Sp := fun vs H Q _ => ∃ (i : Int), vs = [.int i] ∧ Q (.bl true) H
theorem c_is_number (F : FnP K "is_number" "is_number" s_is_number f fd) (B : Fre mg) : Cal P w K mg base 1 ["value"] sp_is_number f fd := by
  refine F.cal (F.ok sc_is_number (fun vs H Q E h => ?_) (fun cdv A outer s H vs Q E hr h => ?_)) (fun _ _ _ _ _ _ us hl => match us, hl with | [_], _ => rfl)
  · obtain ⟨a, rfl, _⟩ := h
    rfl
  · obtain ⟨i, rfl, q⟩ := h
    refine ⟨_, PSs.nox (pss_one (ps_ret (pe_and (pe_callB call_isi (by rfl) B.isinstance (by decide +kernel) (pa_cons (pv 0) (pa_cons (pe_bltn (v := .ty "int") (by rfl) B.int (by decide +kernel) rfl) pa_nil)))
      (pe_one (pe_not (pe_callB call_isi (by rfl) B.isinstance (by decide +kernel) (pa_cons (pv 0) (pa_cons (pe_bltn (v := .ty "bool") (by rfl) B.bool (by decide +kernel) rfl) pa_nil)))))))), ?_⟩
    refine ⟨_, rfl, _, _, _, _, true, rfl, .ty "int", .base (.int i), kit_ty (by decide +kernel), true, rfl, ?_⟩
    exact iteT ⟨_, rfl, _, _, _, _, false, rfl, .ty "bool", .base (.int i), kit_ty (by decide +kernel), false, rfl, q⟩
abbrev s_is_counts : Stmt := top 14
theorem sc_is_counts : FnScope ["value", "width", "one"] ["value", "width"] (defScope s_is_counts) := ⟨rfl, rfl, rfl, by decide +kernel, rfl, by decide +kernel, by decide +kernel⟩
def sp_is_counts : Sp := fun vs H Q _ => ∃ (a : Addr) (p : Place), vs = [.ref a, .int (p.length : Nat)] ∧ IT H a p ∧ p.length ≤ 3 ∧ ∀ H', Same H H' → Q (.bl true) H'
theorem c_is_counts {fN : Addr} {fdN : FuncData} (F : FnP K "is_counts" "is_counts" s_is_counts f fd) (B : Fre mg) (cN : Cal P w K mg base 1 ["value"] sp_is_number fN fdN) (gN : mg "is_number" = some (.ref fN)) : Cal P w K mg base 2 ["value", "width"] sp_is_counts f fd := by
  refine F.cal (F.ok sc_is_counts (fun vs H Q E h => ?_) (fun cdv A outer s H vs Q E hr h => ?_)) (fun _ _ _ _ _ _ us hl => match us, hl with | [_, _], _ => rfl)
  · obtain ⟨a, p, rfl, _⟩ := h
    rfl
  · obtain ⟨a, p, rfl, ha, hn, q⟩ := h
    refine ⟨_, PSs.nox (pss_one (ps_ret (pe_and (pe_callB call_isi (by rfl) B.isinstance (by decide +kernel) (pa_cons (pv 0) (pa_cons (pe_bltn (v := .ty "tuple") (by rfl) B.tuple (by decide +kernel) rfl) pa_nil)))
      (pe_and (pe_cmpR op_eq (pe_callB call_len_seq (by rfl) B.len PySem.boot_len (pa_cons (pv 0) pa_nil)) (pv 1) (nomark _))
      (pe_one (pe_callB (cr_all rfl) (by rfl) B.all (by decide +kernel) (pa_cons (pe_lc (own := [("one", 2)]) (g := gName 2) (tt := tYes) rfl sc_is_counts.nd (pi_tup (pv 0)) (blkOk_by (N := ["value", "width", "one"]) (sc := defScope s_is_counts) (by decide +kernel))
        (fun _ _ _ _ _ => pg_name (i := 2) sc_is_counts.nd rfl (Or.inl rfl)) (fun _ _ _ _ _ => pts_nil) (fun _ _ _ _ _ => pe_cal cN hr rfl gN (pa_cons (pv 2) pa_nil))) pa_nil))))))), ?_⟩
    refine ⟨_, rfl, _, _, _, _, true, rfl, .ty "tuple", .base (.tup ha), kit_ty (by decide +kernel), true, rfl, ?_⟩
    refine iteT ⟨_, rfl, a, _, rfl, .inr (.of ha), _, rfl, rfl, true, by rw [List.length_map]; simp, iteT ?_⟩
    refine ⟨_, rfl, a, rfl, ⟨_, .of ha⟩, fun D nD => ?_⟩
    refine lc_gen walk_tup ecB p (fun _ => some true) nD (by rw [List.length_map]) (by rw [List.length_map]; exact Nat.le_trans hn (by decide)) (fun H1 sm => .of (sm _ _ ha)) (fun j x H1 H' z hz' sm y N1 N0 k3 k0 => ?_) (fun H1 sm hl => ?_)
    · obtain ⟨rfl, e⟩ := y
      rw [List.getElem?_map, hz'] at e
      have e := Option.some.inj e
      subst e
      exact ⟨rfl, _, rfl, z, rfl, k3 _ _ _ rfl rfl (Same.refl _)⟩
    · rw [fm_some] at hl
      refine ⟨D, _, rfl, .of hl.bls, ?_⟩
      have e : (List.map (fun _ => true) p).all id = true := by simp
      rw [e]
      exact q _ sm
abbrev s_check_counts : Stmt := top 15
theorem sc_check_counts : FnScope ["value", "width"] ["value", "width"] (defScope s_check_counts) := ⟨rfl, rfl, rfl, by decide +kernel, rfl, by decide +kernel, by decide +kernel⟩
def sp_check_counts : Sp := fun vs H Q _ => ∃ (a : Addr) (p : Place), vs = [.ref a, .int (p.length : Nat)] ∧ IT H a p ∧ p.length ≤ 3 ∧ ∀ H', Same H H' → Q .non H'
theorem c_check_counts {fN : Addr} {fdN : FuncData} (F : FnP K "check_counts" "check_counts" s_check_counts f fd) (cN : Cal P w K mg base 2 ["value", "width"] sp_is_counts fN fdN) (gN : mg "is_counts" = some (.ref fN)) : Cal P w K mg base 3 ["value", "width"] sp_check_counts f fd := by
  refine F.cal (F.ok sc_check_counts (fun vs H Q E h => ?_) (fun cdv A outer s H vs Q E hr h => ?_)) (fun _ _ _ _ _ _ us hl => match us, hl with | [_, _], _ => rfl)
  · obtain ⟨a, p, rfl, _⟩ := h
    rfl
  · obtain ⟨a, p, rfl, ha, hn, q⟩ := h
    refine ⟨_, PSs.nox (pss_one (ps_if (pt_not (pt_val (pe_cal cN hr rfl gN (pa_cons (pv 0) (pa_cons (pv 1) pa_nil))))) (pss_one ps_never) pss_nil)), ?_⟩
    exact ⟨_, rfl, _, rfl, a, p, rfl, ha, hn, fun H' sm => ⟨true, rfl, q _ sm⟩⟩
/-! stepped -/
abbrev s_stepped : Stmt := top 34
theorem sc_stepped : FnScope ["place", "letter", "way"] ["place", "letter", "way"] (defScope s_stepped) := ⟨rfl, rfl, rfl, by decide +kernel, rfl, by decide +kernel, by decide +kernel⟩
def sp_stepped : Sp := fun vs H Q _ => ∃ (a : Addr) (p : Place) (i : Nat) (d : Int), vs = [.ref a, .int (i : Nat), .int d] ∧ IT H a p ∧ i < p.length ∧ p.length ≤ 3 ∧ ∀ H' c, Same H H' → IT H' c (stp p i d) → Q (.ref c) H'
theorem cut_to (xs : List V) (i : Nat) (h : i ≤ xs.length) : cutV xs none (some (i : Int)) = xs.take i := by
  unfold cutV
  rw [show HT.sIx xs.length xs.length (some (i : Int)) = min i xs.length from HT.sIx_nat xs.length xs.length i, HT.sIx_none, Nat.min_eq_left h]
  simp
theorem cut_from (xs : List V) (i : Nat) (h : i ≤ xs.length) : cutV xs (some (i : Int)) none = xs.drop i := by
  unfold cutV
  rw [show HT.sIx xs.length 0 (some (i : Int)) = min i xs.length from HT.sIx_nat xs.length 0 i, HT.sIx_none, Nat.min_eq_left h]
  rw [List.take_of_length_le (by rw [List.length_drop]; exact Nat.le_refl _)]
theorem c_stepped (F : FnP K "stepped" "stepped" s_stepped f fd) : Cal P w K mg base 1 ["place", "letter", "way"] sp_stepped f fd := by
  refine F.cal (F.ok sc_stepped (fun vs H Q E h => ?_) (fun cdv A outer s H vs Q E hr h => ?_)) (fun _ _ _ _ _ _ us hl => match us, hl with | [_, _, _], _ => rfl)
  · obtain ⟨a, p, i, d, rfl, _⟩ := h
    rfl
  · obtain ⟨a, p, i, d, rfl, ha, hi, hn, q⟩ := h
    refine ⟨_, PSs.nox (pss_one (ps_ret (pe_tup (StX.pa_star (pe_slice sl_tupA (pv 0) po_none (po_some (pv 1))) (pa_cons (pe_op op_add (pe_ix ix_tup (pv 0) (pv 1) (fun _ _ => rfl)) (pv 2)) (StX.pa_star (pe_slice sl_tupA (pv 0) (po_some (pe_op op_add (pv 1) pe_int)) po_none) pa_nil)))))), ?_⟩
    have hl : (p.map V.int).length = p.length := List.length_map ..
    refine ⟨_, rfl, _, rfl, _, rfl, a, _, rfl, .of ha, fun hw => ?_, fun hw c nc => ?_⟩
    · rw [show HT.sIx (p.map V.int).length (p.map V.int).length (some (i : Int)) = min i (p.map V.int).length from HT.sIx_nat _ _ i] at hw
      omega
    · rw [cut_to _ _ (by omega)]
      have s1 : Same H (upd H c (.tup ((p.map V.int).take i))) := same_new nc
      refine ⟨c, _, rfl, .inl (.of upd_same), _, rfl, _, rfl, a, _, _, _, rfl, rfl, .of (s1 _ _ ha), atI_nat (int_at hi), _, rfl, _, _, rfl, rfl, ?_⟩
      refine ⟨_, rfl, _, rfl, _, _, rfl, rfl, _, rfl, a, _, rfl, .of (s1 _ _ ha), fun hw => ?_, fun hw e ne => ?_⟩
      · exfalso
        have := hw.1
        rw [show ((i : Int) + 1) = ((i + 1 : Nat) : Int) from rfl, show HT.sIx (p.map V.int).length 0 (some ((i + 1 : Nat) : Int)) = min (i + 1) (p.map V.int).length from HT.sIx_nat _ _ _] at this
        omega
      · rw [show ((i : Int) + 1) = ((i + 1 : Nat) : Int) from rfl, cut_from _ _ (by omega)]
        refine ⟨e, _, rfl, .inl (.of upd_same), ?_, fun t nt => ?_⟩
        · show (List.take i (p.map V.int) ++ (V.int (p.getD i 0 + d) :: (List.drop (i + 1) (p.map V.int) ++ []))).length ≤ sizeLine
          have h3 : (3 : Nat) ≤ sizeLine := by decide
          simp
          omega
        · refine q _ t ((s1.trans (same_new ne)).trans (same_new nt)) ?_
          show upd _ t _ t = _
          rw [upd_same]
          congr 2
          simp [stp, List.map_take, List.map_drop]
/-! is_before -/
abbrev s_is_before : Stmt := top 46
theorem sc_is_before : FnScope ["one", "other", "counts", "gap", "at", "to", "value", "times"] ["one", "other", "counts"] (defScope s_is_before) := ⟨rfl, rfl, rfl, by decide +kernel, rfl, by decide +kernel, by decide +kernel⟩
def Bp (p : Place) : Prop := ∀ x ∈ p, -(2 ^ 29) < x ∧ x < 2 ^ 29
def sp_is_before : Sp := fun vs H Q _ => ∃ (a b d : Addr) (p q c : Place), vs = [.ref a, .ref b, .ref d] ∧ IT H a p ∧ IT H b q ∧ IT H d c ∧ p.length = c.length ∧ q.length = c.length ∧ c.length ≤ 3 ∧ isZ c = false ∧ Bp p ∧ Bp q ∧ Bp c ∧ ∀ H', Same H H' → Q (.bl (isBefore p q c)) H'
theorem Bp.at_ {p : Place} (h : Bp p) (i : Nat) : -(2 ^ 29) < p.getD i 0 ∧ p.getD i 0 < 2 ^ 29 := by
  rw [List.getD_eq_getElem?_getD]
  cases e : p[i]? with
  | none => decide
  | some x => exact h x (List.mem_of_getElem? e)
theorem sub_at {p q : Place} {i : Nat} (h1 : i < p.length) (h2 : i < q.length) : (subP p q).getD i 0 = p.getD i 0 - q.getD i 0 := by
  unfold subP
  simp [List.getD_eq_getElem?_getD, List.getElem?_zipWith, List.getElem?_eq_getElem h1, List.getElem?_eq_getElem h2]
theorem add_at {p q : Place} {i : Nat} (h1 : i < p.length) (h2 : i < q.length) : (addP p q).getD i 0 = p.getD i 0 + q.getD i 0 := by
  unfold addP
  simp [List.getD_eq_getElem?_getD, List.getElem?_zipWith, List.getElem?_eq_getElem h1, List.getElem?_eq_getElem h2]
theorem c_is_before {fM : Addr} {fdM : FuncData} (F : FnP K "is_before" "is_before" s_is_before f fd) (B : Fre mg) (cM : Cal P w K mg base 1 ["one", "other"] (sp_zip fun x y => x - y) fM fdM) (gM : mg "minus" = some (.ref fM)) : Cal P w K mg base 2 ["one", "other", "counts"] sp_is_before f fd := by
  refine F.cal (F.ok sc_is_before (fun vs H Q E h => ?_) (fun cdv A outer s H vs Q E hr h => ?_)) (fun _ _ _ _ _ _ us hl => match us, hl with | [_, _, _], _ => rfl)
  · obtain ⟨a, b, d, p, q, c, rfl, _⟩ := h
    rfl
  · obtain ⟨a, b, d, p, q, c, rfl, ha, hb, hc, l1, l2, l3, hz, b1, b2, b3, k⟩ := h
    refine ⟨_, PSs.nox (pss_cons (ps_set (i := 3) sc_is_before.nd rfl (.inl rfl) (pe_cal cM hr rfl gM (pa_cons (pv 1) (pa_cons (pv 0) pa_nil))))
      (pss_cons (ps_set (i := 4) sc_is_before.nd rfl (.inl rfl) (pe_ix ix_list (pe_lc (own := [("to", 5), ("value", 6)]) (g := gTup K 2 (gCons (gName 5) (gCons (gName 6) gNil))) rfl sc_is_before.nd (pi_enumT rfl B.enumerate (pa_cons (pv 2) pa_nil)) (blkOk_by (N := ["one", "other", "counts", "gap", "at", "to", "value", "times"]) (sc := defScope s_is_before) (by decide +kernel))
        (fun _ _ _ _ _ => pg_tup rfl (pgs_cons (pg_name (i := 5) sc_is_before.nd rfl (Or.inl rfl)) (pgs_cons (pg_name (i := 6) sc_is_before.nd rfl (Or.inl rfl)) pgs_nil))) (fun _ _ _ _ _ => pts_one (pt_cmpR op_ne (pv 6) pe_int (nomark _)))
        (fun _ _ _ _ _ => pv 5)) pe_int (fun _ _ => rfl)))
      (pss_cons (ps_set (i := 7) sc_is_before.nd rfl (.inr rfl) (pe_op op_fdivN (pe_ix ix_tup (pv 3) (pv 4) (fun _ _ => rfl)) (pe_ix ix_tup (pv 2) (pv 4) (fun _ _ => rfl))))
      (pss_one (ps_ret (pe_and (pe_cmpR op_ge (pv 7) pe_int (nomark _)) (pe_one (pe_cmpR (op_eqD hr.units) (pv 3) (pe_callTy call_tuple_of (by rfl) B.tuple (by decide +kernel) (pa_cons (pe_lc (own := [("value", 6)]) (g := gName 6) (tt := tYes) rfl sc_is_before.nd (pi_tup (pv 2)) (blkOk_by (N := ["one", "other", "counts", "gap", "at", "to", "value", "times"]) (sc := defScope s_is_before) (by decide +kernel))
        (fun _ _ _ _ _ => pg_name (i := 6) sc_is_before.nd rfl (Or.inl rfl)) (fun _ _ _ _ _ => pts_nil) (fun _ _ _ _ _ => pe_op op_mul (pv 7) (pv 6))) pa_nil)) (nomark _))))))))), ?_⟩
    have hsz : (3 : Nat) ≤ sizeLine := by decide
    refine ⟨_, rfl, _, rfl, b, a, q, p, rfl, hb, ha, by omega, fun H1 g sm1 hg => ?_⟩
    refine ⟨_, rfl, d, _, rfl, .of (sm1 _ _ hc), fun D nD => ?_⟩
    refine lc_gen walk_enumT ecN (List.range c.length) (fun k => if c.getD k 0 = 0 then none else some k) nD (by rw [List.length_range, List.length_map]) (by rw [List.length_map]; omega) (fun H2 sm => .of (sm _ _ (sm1 _ _ hc))) (fun j x H2 H' z hz' sm y N1 N0 k3 k0 => ?_) (fun H2 sm hl => ?_)
    · obtain ⟨T, x1, x2, rfl, nT, rfl, e1, e2⟩ := y
      obtain ⟨e, hj⟩ := range_at hz'
      subst e
      have e1 := (Option.some.inj e1).symm
      have e2 := Option.some.inj ((int_at hj).symm.trans e2)
      subst e1 e2
      refine ⟨T, _, rfl, .of upd_same, rfl, _, _, rfl, _, _, rfl, rfl, rfl, _, rfl, rfl, _, rfl, ?_⟩
      by_cases e : c.getD z 0 = 0
      · exact iteN (neZ_no e) (k0 _ (if_pos e) (same_new nT))
      · exact iteY (neZ_yes e) ⟨_, rfl, k3 z _ _ (if_neg e) rfl (same_new nT)⟩
    · rw [idxs_fm] at hl
      obtain ⟨r, er⟩ := idxs_some hz
      obtain ⟨vs, e1, e2⟩ := hl
      rw [er] at e2
      have hlead := lead_lt hz
      have hne := lead_ne hz
      have s2 := sm1.trans sm
      have hgap : IT H2 g (subP q p) := sm _ _ hg
      have hgl : (subP q p).length = c.length := by
        unfold subP
        rw [List.length_zipWith]
        omega
      cases e2 with
      | cons e3 e4 =>
        refine ⟨D, _, 0, _, rfl, rfl, .of e1, atI_nat (j := 0) rfl, ?_⟩
        rw [show _ = _ from e3]
        have hB := b3.at_ (leadP c)
        have hB1 := b1.at_ (leadP c)
        have hB2 := b2.at_ (leadP c)
        refine ⟨_, rfl, _, rfl, g, _, _, _, rfl, rfl, .of hgap, atI_nat (int_at (by omega)), _, rfl, _, rfl, d, _, _, _, rfl, rfl, .of (s2 _ _ hc), atI_nat (int_at hlead), _, _, rfl, rfl, ⟨hne, by omega⟩, ?_⟩
        refine ⟨_, rfl, _, _, rfl, rfl, _, rfl, ?_⟩
        unfold isBefore at k
        have ht : ((subP q p).getD (leadP c) 0).natAbs < 2 ^ 30 := by
          rw [sub_at (by omega) (by omega)]
          omega
        have hq : (Int.fdiv ((subP q p).getD (leadP c) 0) (c.getD (leadP c) 0)).natAbs ≤ ((subP q p).getD (leadP c) 0).natAbs := Int.natAbs_fdiv_le_natAbs _ _
        change ∀ H', Same H H' → Q (.bl (decide ((Int.fdiv ((subP q p).getD (leadP c) 0) (c.getD (leadP c) 0)) ≥ 0) && decide (subP q p = mulP (Int.fdiv ((subP q p).getD (leadP c) 0) (c.getD (leadP c) 0)) c))) H' at k
        show if decide ((Int.fdiv ((subP q p).getD (leadP c) 0) (c.getD (leadP c) 0)) ≥ 0) = true then _ else _
        by_cases h0 : Int.fdiv ((subP q p).getD (leadP c) 0) (c.getD (leadP c) 0) ≥ 0
        · rw [decide_eq_true h0] at k ⊢
          refine iteT ⟨_, rfl, _, rfl, d, rfl, ⟨_, .of (s2 _ _ hc)⟩, fun D2 nD2 => ?_⟩
          refine lc_gen walk_tup ecI c (fun x => some (Int.fdiv ((subP q p).getD (leadP c) 0) (c.getD (leadP c) 0) * x)) nD2 (by rw [List.length_map]) (by rw [List.length_map]; omega) (fun H3 sm3 => .of (sm3 _ _ (s2 _ _ hc))) (fun i x H3 H' z hz' sm3 y N1 N0 k3 k0 => ?_) (fun H3 sm3 hl3 => ?_)
          · obtain ⟨rfl, e⟩ := y
            rw [List.getElem?_map, hz'] at e
            have e := Option.some.inj e
            subst e
            exact ⟨rfl, _, rfl, _, rfl, _, _, rfl, rfl, .inl ⟨by omega, by omega⟩, k3 _ _ _ rfl rfl (Same.refl _)⟩
          · rw [fm_some] at hl3
            refine rd_tupI (K := K) (Q := fun y H2 => rEqD K (.ref g) y H2 Q) hl3 fun e ne => ?_
            have s4 := sm3.trans (same_new (o := .tup ((mulP (Int.fdiv ((subP q p).getD (leadP c) 0) (c.getD (leadP c) 0)) c).map V.int)) ne)
            refine rd_eqP (s4 _ _ hgap) (q := mulP (Int.fdiv ((subP q p).getD (leadP c) 0) (c.getD (leadP c) 0)) c) upd_same ?_
            rw [Bool.true_and] at k
            exact k _ (s2.trans s4)
        · rw [decide_eq_false h0] at k ⊢
          refine iteF ?_
          rw [Bool.false_and] at k
          exact k _ s2
end
end K35
/-! text D5 -/
set_option Elab.async false
set_option linter.all false
set_option maxRecDepth 100000
set_option maxHeartbeats 4000000
/-! streets_of, road -/
namespace K35
open PySem PySem.Spec PyProof.Rows L2
theorem stp_len (p : Place) (i : Nat) (d : Int) (h : i < p.length) : (stp p i d).length = p.length := by
  simp [stp]
  omega
theorem streets_len : ∀ (p : Place) (v : Wd), (streetsOf p v).length = v.length
  | _, [] => rfl
  | p, g :: v => by
    unfold streetsOf
    split <;> rw [List.length_cons, streets_len _ v, List.length_cons]
section
variable {P : Program} {w : World} {K : PySem.W.Frag} {mg : Str → Option Value} {base : Heap} {f : Addr} {fd : FuncData}
abbrev s_streets_of : Stmt := top 35
theorem sc_streets_of : FnScope ["word", "letters", "start", "found", "here", "character", "letter"] ["word", "letters", "start"] (defScope s_streets_of) := ⟨rfl, rfl, rfl, by decide +kernel, rfl, by decide +kernel, by decide +kernel⟩
def sp_streets_of : Sp := fun vs H Q _ => ∃ (L : List Nat) (v : Wd) (a : Addr) (p : Place), LG L ∧ WF L.length v ∧ v.length < sizeLine ∧ p.length = L.length ∧ vs = [.str (wd L v), .str (lt L), .ref a] ∧ IT H a p ∧ ∀ H' r, Same H H' → LsE ecS H' r (streetsOf p v) → Q (.ref r) H'
theorem ecS_new {H : Hp} {t q : Addr} {p : Place} {i : Nat} {n : Int} (hq : IT H q p) (ht : H t = some (.tup [.ref q, .int (i : Int), .int n])) : ecS.at_ H (.ref t) (p, i, n) := ⟨t, q, rfl, hq, ht⟩
theorem LsE.push {α : Type} {E : EC α} {H : Hp} {a : Addr} {l : List α} {vs : List V} {v : V} {x : α} (e : H a = some (.lst vs)) (h : E.all H vs l) (hx : E.at_ H v x) : LsE E (upd H a (.lst (vs ++ [v]))) a (l ++ [x]) :=
  ⟨_, upd_same, Paired.snoc (E.allKeep (stup_lst e) h) (E.keep (stup_lst e) hx)⟩
theorem c_streets_of {fS : Addr} {fdS : FuncData} {tL : Tok} (F : FnP K "streets_of" "streets_of" s_streets_of f fd) (gL : mg "LOWER" = some (.str LOW tL)) (cS : Cal P w K mg base 1 ["place", "letter", "way"] sp_stepped fS fdS) (gS : mg "stepped" = some (.ref fS)) : Cal P w K mg base 2 ["word", "letters", "start"] sp_streets_of f fd := by
  refine F.cal (F.ok sc_streets_of (fun vs H Q E h => ?_) (fun cdv A outer s H vs Q E hr h => ?_)) (fun _ _ _ _ _ _ us hl => match us, hl with | [_, _, _], _ => rfl)
  · obtain ⟨L, v, a, p, _, _, _, _, rfl, _⟩ := h
    rfl
  · obtain ⟨L, v, a, p, lg, hv, hz, hp, rfl, ha, q⟩ := h
    refine ⟨_, PSs.nox (pss_cons (ps_par (i := 3) (j := 4) rfl sc_streets_of.nd rfl rfl (by decide) rfl rfl (pa_cons (pe_lst pa_nil) (pa_cons (pv 2) pa_nil)) (by rfl))
      (pss_cons (ps_for PassesOwn.never rfl (pi_str (pv 0)) (pg_name (i := 5) sc_streets_of.nd rfl (.inl rfl))
        (pss_cons (ps_set (i := 6) sc_streets_of.nd rfl (.inl rfl) (pe_bmS PySem.F.plainAttrs_str PySem.F.slot_str_index PySem.F.type_str_index (mt_indexX rfl takes0) (pv 1) (pa_cons (pe_lower (pv 5)) pa_nil)))
        (pss_one (ps_if (pt_cmpR op_in_sign (pv 5) (pe_glob (v := .str LOW) rfl gL ⟨tL, rfl⟩) rfl)
          (pss_cons (ps_expr (pe_bm PySem.F.plainAttrs_list PySem.F.slot_list_append PySem.F.type_list_append mt_append (pv 3) (pa_cons (pe_tup (pa_cons (pv 4) (pa_cons (pv 6) (pa_cons pe_int pa_nil)))) pa_nil)))
            (pss_one (ps_set (i := 4) sc_streets_of.nd rfl (.inl rfl) (pe_cal cS hr rfl gS (pa_cons (pv 4) (pa_cons (pv 6) (pa_cons pe_int pa_nil)))))))
          (pss_cons (ps_set (i := 4) sc_streets_of.nd rfl (.inl rfl) (pe_cal cS hr rfl gS (pa_cons (pv 4) (pa_cons (pv 6) (pa_cons (pe_un un_neg pe_int) pa_nil)))))
            (pss_one (ps_expr (pe_bm PySem.F.plainAttrs_list PySem.F.slot_list_append PySem.F.type_list_append mt_append (pv 3) (pa_cons (pe_tup (pa_cons (pv 4) (pa_cons (pv 6) (pa_cons (pe_un un_neg pe_int) pa_nil)))) pa_nil)))))))))
      (pss_one (ps_ret (pv 3))))), ?_⟩
    refine ⟨Nat.zero_le _, fun l nl => ?_⟩
    have s0 : Same H (upd H l (.lst [])) := same_new nl
    refine ⟨_, rfl, _, _, rfl, ?_⟩
    refine ⟨_, rfl, _, rfl, for_it walk_wd (fun i σ H1 => ∃ h y5 y6 acc qp, σ = [some (.str (wd L v)), some (.str (lt L)), some (.ref a), some (.ref l), some (.ref h), y5, y6] ∧ Same H H1 ∧ LsE ecS H1 l acc ∧ IT H1 h qp ∧ qp.length = L.length ∧ acc.length ≤ i ∧ acc ++ streetsOf qp (v.drop i) = streetsOf p v)
      ⟨a, _, _, [], p, rfl, s0, ⟨[], upd_same, .nil⟩, s0 _ _ ha, hp, Nat.le_refl _, rfl⟩ (fun _ _ _ _ _ => trivial) (fun i x σ H1 H' hi pv y => ?_) (fun σ H1 pv => ?_)⟩
    · obtain ⟨h, y5, y6, acc, qp, rfl, sm, hl, hh, hq, hal, he⟩ := pv
      obtain ⟨rfl, g, hg, rfl⟩ := y
      have hgl := hv g (List.mem_of_getElem? hg)
      have hdr : v.drop i = g :: v.drop (i + 1) := by
        obtain ⟨h1, h2⟩ := List.getElem?_eq_some_iff.mp hg
        rw [List.drop_eq_getElem_cons h1, h2]
      rw [hdr] at he
      have hqi : g.1 < qp.length := by omega
      have hL3 := lg.le
      refine ⟨_, rfl, rfl, _, rfl, ⟨_, rfl⟩, _, rfl, rfl, by show 1 ≤ 5592405; decide, lt L, Txt.lower (wd L [g]), rfl, rfl, fun k hk => ?_, fun hn => ?_⟩
      · rw [lg.lower hgl, lg.index hgl] at hk
        cases hk
        refine ⟨_, rfl, cd L g, LOW, rfl, rfl, _, rfl, ?_⟩
        rw [lg.isLow hgl]
        obtain ⟨vs, e1, e2⟩ := hl
        have hvl : vs.length = acc.length := e2.length
        obtain ⟨gi, gb⟩ := g
        cases gb
        · refine iteF ⟨_, rfl, _, rfl, _, rfl, h, qp, gi, -1, rfl, hh, hqi, by omega, fun H2 c sm2 hc => ?_⟩
          refine ⟨_, rfl, .inl ⟨rfl, _, .of (sm2 _ _ e1)⟩, _, rfl, _, rfl, _, rfl, by show 3 ≤ sizeLine; decide, fun t nt => ?_⟩
          have s3 : Same H2 (upd H2 t (.tup [.ref c, .int (gi : Int), .int (-1)])) := same_new nt
          refine ⟨l, _, _, rfl, rfl, s3 _ _ (sm2 _ _ e1), by omega, ?_⟩
          have e3 := ecS.allKeep (Same.tups (sm2.trans s3)) e2
          refine ⟨c, _, _, acc ++ [(stp qp gi (-1), gi, -1)], stp qp gi (-1), rfl, same_over (sm.trans (sm2.trans s3)) nl, LsE.push (s3 _ _ (sm2 _ _ e1)) e3 (ecS_new (s3 _ _ hc) upd_same), (stup_lst (s3 _ _ (sm2 _ _ e1))) _ _ (s3 _ _ hc), by rw [stp_len _ _ _ hqi, hq], by simp; omega, ?_⟩
          rw [List.append_assoc, ← he]
          rfl
        · refine iteT ⟨_, rfl, .inl ⟨rfl, _, .of e1⟩, _, rfl, _, rfl, by show 3 ≤ sizeLine; decide, fun t nt => ?_⟩
          have s3 : Same H' (upd H' t (.tup [.ref h, .int (gi : Int), .int 1])) := same_new nt
          refine ⟨l, _, _, rfl, rfl, s3 _ _ e1, by omega, ?_⟩
          have e3 := ecS.allKeep (Same.tups s3) e2
          have hpush := LsE.push (s3 _ _ e1) e3 (ecS_new (p := qp) (s3 _ _ hh) upd_same)
          have hh2 : IT _ h qp := (stup_lst (acc' := vs ++ [.ref t]) (s3 _ _ e1)) _ _ (s3 _ _ hh)
          refine ⟨_, rfl, _, rfl, h, qp, gi, 1, rfl, hh2, hqi, by omega, fun H2 c sm2 hc => ?_⟩
          refine ⟨c, _, _, acc ++ [(qp, gi, 1)], stp qp gi 1, rfl, (same_over (sm.trans s3) nl).trans sm2, hpush.same sm2, hc, by rw [stp_len _ _ _ hqi, hq], by simp; omega, ?_⟩
          rw [List.append_assoc, ← he]
          rfl
      · rw [lg.lower hgl, lg.index hgl] at hn
        cases hn
    · obtain ⟨h, y5, y6, acc, qp, rfl, sm, hl, hh, hq, hal, he⟩ := pv
      rw [List.drop_length] at he
      have e : acc = streetsOf p v := by rw [← he]; simp [streetsOf]
      subst e
      exact ⟨_, rfl, q _ _ sm hl⟩
/-! road -/
abbrev s_road : Stmt := top 38
theorem sc_road : FnScope ["letters", "place", "found", "letter", "value"] ["letters", "place"] (defScope s_road) := ⟨rfl, rfl, rfl, by decide +kernel, rfl, by decide +kernel, by decide +kernel⟩
def sp_road : Sp := fun vs H Q _ => ∃ (L : List Nat) (a : Addr) (p : Place), LG L ∧ p.length = L.length ∧ Bp p ∧ (road p).length ≤ sizeLine ∧ vs = [.str (lt L), .ref a] ∧ IT H a p ∧ ∀ H', Same H H' → Q (.str (wd L (road p))) H'
theorem rep_one_sg (L : List Nat) (g : Sg) (n : Int) : repS (wd L [g]) n = wd L (List.replicate n.toNat g) := by
  rw [rep_wd]
  congr 1
  generalize n.toNat = k
  induction k with
  | zero => rfl
  | succ k ih => rw [List.replicate_succ, List.replicate_succ, List.flatten_cons, ih]; rfl
theorem lt_size (L : List Nat) : (lt L).cps.size = L.length := by simp [lt]
theorem lt_get {L : List Nat} {i : Nat} {x : V} (h : (lt L).cps[i]?.map (fun c => V.str ⟨#[c]⟩) = some x) : x = .str (wd L [(i, true)]) := by
  cases e : (lt L).cps[i]? with
  | none => rw [e] at h; cases h
  | some c =>
    rw [e] at h
    have h := Option.some.inj h
    rw [← h]
    have e2 : L[i]? = some c := by simpa [lt] using e
    have e3 : cd L (i, true) = c := by simp [cd, List.getD_eq_getElem?_getD, e2]
    show V.str ⟨#[c]⟩ = V.str ⟨#[cd L (i, true)]⟩
    rw [e3]
theorem c_road {fS : Addr} {fdS : FuncData} (F : FnP K "road" "road" s_road f fd) (B : Fre mg) (cS : Cal P w K mg base 1 ["character"] sp_swapped fS fdS) (gS : mg "swapped" = some (.ref fS)) : Cal P w K mg base 2 ["letters", "place"] sp_road f fd := by
  refine F.cal (F.ok sc_road (fun vs H Q E h => ?_) (fun cdv A outer s H vs Q E hr h => ?_)) (fun _ _ _ _ _ _ us hl => match us, hl with | [_, _], _ => rfl)
  · obtain ⟨L, a, p, _, _, _, _, rfl, _⟩ := h
    rfl
  · obtain ⟨L, a, p, lg, hp, hb, hz, rfl, ha, q⟩ := h
    refine ⟨_, PSs.nox (pss_cons (ps_set (i := 2) sc_road.nd rfl (.inl rfl) pe_str)
      (pss_cons (ps_for PassesOwn.never rfl (pi_zipS rfl B.zip (pa_cons (pv 0) (pa_cons (pv 1) pa_nil))) (pg_tup rfl (pgs_cons (pg_name (i := 3) sc_road.nd rfl (.inl rfl)) (pgs_cons (pg_name (i := 4) sc_road.nd rfl (.inl rfl)) pgs_nil)))
        (pss_one (ps_aug (i := 2) sc_road.nd rfl (.inl rfl) (pe_ifExp (pt_cmpR op_gt (pv 4) pe_int (nomark _)) (pe_op op_mulS (pv 3) (pv 4)) (pe_op op_mulS (pe_cal cS hr rfl gS (pa_cons (pv 3) pa_nil)) (pe_un un_neg (pv 4)))) iop_add_str)))
      (pss_one (ps_ret (pv 2))))), ?_⟩
    refine ⟨_, rfl, _, rfl, lt L, a, p.map V.int, rfl, .of ha, ?_⟩
    refine for_it (walk_zipS (by rw [List.length_map, hp, lt_size])) (fun i σ H1 => ∃ acc y3 y4, σ = [some (.str (lt L)), some (.ref a), some (.str (wd L acc)), y3, y4] ∧ Same H H1 ∧ acc ++ roadFrom i (p.drop i) = road p)
      ⟨[], _, _, rfl, Same.refl _, rfl⟩ (fun i σ H1 _ ⟨_, _, _, _, sm, _⟩ => .of (sm _ _ ha)) (fun i x σ H1 H' hi pv y => ?_) (fun σ H1 pv => ?_)
    · obtain ⟨acc, y3, y4, rfl, sm, he⟩ := pv
      obtain ⟨T, x1, x2, rfl, nT, rfl, e1, e2⟩ := y
      have hi' : i < p.length := by rw [List.length_map] at hi; exact hi
      have e1 := lt_get e1
      have e2 := Option.some.inj ((int_at hi').symm.trans e2)
      subst e1 e2
      have hdr : p.drop i = p.getD i 0 :: p.drop (i + 1) := by
        rw [List.drop_eq_getElem_cons hi', List.getD_eq_getElem?_getD, List.getElem?_eq_getElem hi']
        rfl
      rw [hdr] at he
      have hbi := hb.at_ i
      generalize p.getD i 0 = v at he hbi
      have hlen := congrArg List.length he
      rw [List.length_append] at hlen
      change acc ++ (roadI i v ++ roadFrom (i + 1) (p.drop (i + 1))) = road p at he
      change acc.length + (roadI i v ++ roadFrom (i + 1) (p.drop (i + 1))).length = (road p).length at hlen
      rw [List.length_append] at hlen
      refine ⟨T, _, rfl, .of upd_same, rfl, _, _, rfl, _, _, rfl, rfl, ?_⟩
      refine ⟨_, rfl, _, rfl, _, _, rfl, rfl, _, rfl, ?_⟩
      unfold roadI at he hlen
      by_cases hv : v > 0
      · rw [if_pos hv] at he hlen
        rw [List.length_replicate] at hlen
        rw [decide_eq_true hv]
        refine iteT ⟨_, rfl, _, rfl, _, _, rfl, rfl, by omega, by omega, by rw [wd_len]; show 1 * v.toNat ≤ sizeLine; omega, ?_⟩
        rw [rep_one_sg]
        refine ⟨_, _, rfl, rfl, by rw [wd_len, wd_len, List.length_replicate]; omega, ?_⟩
        rw [wd_app]
        exact ⟨_, _, _, rfl, sm.trans (same_new nT), by rw [List.append_assoc]; exact he⟩
      · rw [if_neg hv] at he hlen
        rw [List.length_replicate] at hlen
        rw [decide_eq_false hv]
        have hil : (i, true).1 < L.length := by show i < L.length; omega
        refine iteF ⟨_, rfl, L, (i, true), lg, hil, rfl, _, rfl, _, rfl, _, _, rfl, rfl, by omega, by omega, by rw [wd_len]; show 1 * (-v).toNat ≤ sizeLine; omega, ?_⟩
        rw [rep_one_sg]
        refine ⟨_, _, rfl, rfl, by rw [wd_len, wd_len, List.length_replicate]; omega, ?_⟩
        rw [wd_app]
        exact ⟨_, _, _, rfl, sm.trans (same_new nT), by rw [List.append_assoc]; exact he⟩
    · obtain ⟨acc, y3, y4, rfl, sm, he⟩ := pv
      rw [List.length_map, List.drop_length] at he
      have e : acc = road p := by rw [← he]; simp [roadFrom]
      subst e
      exact ⟨_, rfl, q _ sm⟩
end
end K35
/-! text D6 -/
set_option Elab.async false
set_option linter.all false
set_option maxRecDepth 100000
set_option maxHeartbeats 4000000
/-! normal -/
namespace K35
open PySem PySem.Spec PyProof.Rows L2
def nrm1 (r : Place) : Place := if lead r > 0 then r else mulP (-1) r
def nzs (rows : List Place) : List Place := rows.filter fun r => !isZ r
def nrmRs (rows : List Place) : List Place := (nzs rows).map nrm1
theorem nrmRs_one (r : Place) : nrmRs [r] = nrmR r := by
  unfold nrmRs nzs nrmR nrm1
  rw [List.filter_cons, List.filter_nil]
  show List.map _ (if (!isZ r) = true then [r] else []) = if isZ r = true then _ else _
  cases isZ r <;> rfl
theorem isZ_iff {p : Place} {n : Nat} (h : p.length = n) : isZ p = decide (p = zeroP n) := by
  subst h
  induction p with
  | nil => rfl
  | cons x p ih =>
    show ((x == 0) && isZ p) = _
    rw [ih]
    by_cases h1 : x = 0 <;> by_cases h2 : p = zeroP p.length
    · rw [h1, decide_eq_true h2]
      simp [zeroP, List.replicate_succ] at h2 ⊢
      exact h2
    · rw [h1, decide_eq_false h2]
      simp [zeroP, List.replicate_succ] at h2 ⊢
      exact h2
    · simp [h1, zeroP, List.replicate_succ]
    · simp [h1, zeroP, List.replicate_succ]
def lefts (rows : List Place) (i : Nat) : List Place := rows.filter fun r => decide (i ≤ leadP r)
def heres (rows : List Place) (i : Nat) : List Place := rows.filter fun r => decide (leadP r = i)
def founds (rows : List Place) (i : Nat) : List Place := (rows.filter fun r => decide (leadP r < i)).map nrm1
theorem lead_at {r : Place} {i : Nat} (h : isZ r = false) (hi : i ≤ leadP r) : r.getD i 0 = 0 ↔ ¬ leadP r = i := by
  constructor
  · intro e q
    rw [← q] at e
    exact lead_ne h e
  · intro q
    have hl := lead_lt h
    have := List.not_of_lt_findIdx (p := fun x : Int => x != 0) (xs := r) (i := i) (show i < leadP r by omega)
    rw [List.getD_eq_getElem?_getD, List.getElem?_eq_getElem (by omega)]
    simpa using this
theorem fm_cons {α β : Type} (f : α → Option β) (x : α) (l : List α) : (x :: l).filterMap f = (match f x with | none => l.filterMap f | some b => b :: l.filterMap f) := List.filterMap_cons
theorem lefts_here : ∀ (rows : List Place) (i : Nat), (∀ r ∈ rows, isZ r = false) → (lefts rows i).filterMap (fun r => if r.getD i 0 = 0 then none else some r) = heres rows i
  | [], _, _ => rfl
  | r :: rows, i, h => by
    have ih := lefts_here rows i fun x hx => h x (List.mem_cons_of_mem _ hx)
    have hr := h r (List.mem_cons_self ..)
    unfold lefts heres at ih ⊢
    rw [List.filter_cons, List.filter_cons]
    by_cases h1 : i ≤ leadP r
    · rw [if_pos (decide_eq_true h1), fm_cons, ih]
      by_cases h2 : leadP r = i
      · have h3 : ¬ r.getD i 0 = 0 := fun q => (lead_at hr h1).mp q h2
        rw [if_neg h3, if_pos (decide_eq_true h2)]
      · rw [if_pos ((lead_at hr h1).mpr h2), if_neg (by simpa using h2)]
    · rw [if_neg (by simpa using h1), ih, if_neg (by simp; omega)]
theorem lefts_left : ∀ (rows : List Place) (i : Nat), (∀ r ∈ rows, isZ r = false) → (lefts rows i).filterMap (fun r => if r.getD i 0 = 0 then some r else none) = lefts rows (i + 1)
  | [], _, _ => rfl
  | r :: rows, i, h => by
    have ih := lefts_left rows i fun x hx => h x (List.mem_cons_of_mem _ hx)
    have hr := h r (List.mem_cons_self ..)
    unfold lefts at ih ⊢
    rw [List.filter_cons, List.filter_cons]
    by_cases h1 : i ≤ leadP r
    · rw [if_pos (decide_eq_true h1), fm_cons, ih]
      by_cases h2 : leadP r = i
      · have h3 : ¬ r.getD i 0 = 0 := fun q => (lead_at hr h1).mp q h2
        rw [if_neg h3, if_neg (by simp; omega)]
      · rw [if_pos ((lead_at hr h1).mpr h2), if_pos (by simp; omega)]
    · rw [if_neg (by simpa using h1), ih, if_neg (by simp; omega)]
theorem nz_fm {n : Nat} : ∀ rows : List Place, (∀ r ∈ rows, r.length = n) → rows.filterMap (fun r => if r = zeroP n then none else some r) = nzs rows
  | [], _ => rfl
  | r :: rows, h => by
    have ih := nz_fm rows fun x hx => h x (List.mem_cons_of_mem _ hx)
    have hr := isZ_iff (h r (List.mem_cons_self ..))
    unfold nzs at ih ⊢
    rw [List.filter_cons, fm_cons, ih, hr]
    by_cases e : r = zeroP n
    · rw [if_pos e, decide_eq_true e]; rfl
    · rw [if_neg e, decide_eq_false e]; rfl
def tNo : TE := fun _ _ _ => False
theorem pe_no {X : Cx} {e : Expr} : PE X e tNo := ⟨fun _ _ _ _ _ _ h => h.elim⟩
theorem rep_zero (n : Nat) : (List.replicate n [V.int 0]).flatten = (zeroP n).map V.int := by
  unfold zeroP
  rw [List.map_replicate]
  induction n with
  | zero => rfl
  | succ n ih => rw [List.replicate_succ, List.replicate_succ, List.flatten_cons, ih]; rfl
/-- an item of a list of places -/
theorem LsE.walk {α : Type} {E : EC α} {H H' : Hp} {l : List α} {vs : List V} {i : Nat} {x : V} {b : α} (h : E.all H vs l) (s : STup H H') (hx : vs[i]? = some x) (hb : l[i]? = some b) : E.at_ H' x b := E.keep s (paired_two h hx hb)
theorem one_cases {α : Type} {l : List α} (h : l.length ≤ 1) : l = [] ∨ ∃ r, l = [r] := by
  match l, h with
  | [], _ => exact .inl rfl
  | [r], _ => exact .inr ⟨r, rfl⟩
theorem founds_succ {R : List Place} (h : R.length ≤ 1) (i : Nat) : founds R i ++ (heres R i).map nrm1 = founds R (i + 1) := by
  rcases one_cases h with rfl | ⟨r, rfl⟩
  · rfl
  · unfold founds heres
    simp only [List.filter_cons, List.filter_nil]
    by_cases h1 : leadP r < i
    · have h2 : ¬ leadP r = i := by omega
      have h3 : leadP r < i + 1 := by omega
      simp [h1, h2, h3]
    · by_cases h2 : leadP r = i
      · have h3 : leadP r < i + 1 := by omega
        simp [h1, h2, h3]
      · have h3 : ¬ leadP r < i + 1 := by omega
        simp [h1, h2, h3]
theorem heres_one {R : List Place} (h : R.length ≤ 1) (i : Nat) {r : Place} {l : List Place} (e : heres R i = r :: l) : founds R i = [] ∧ l = [] ∧ R = [r] ∧ leadP r = i := by
  rcases one_cases h with rfl | ⟨q, rfl⟩
  · cases e
  · unfold heres at e
    unfold founds
    simp only [List.filter_cons, List.filter_nil] at e ⊢
    by_cases h2 : leadP q = i
    · rw [if_pos (decide_eq_true h2)] at e
      injection e with e1 e2
      subst e1 e2
      have h1 : ¬ leadP q < i := by omega
      simp [h1, h2]
    · rw [if_neg (by simpa using h2)] at e
      cases e
theorem eqZ_no {v : Int} (e : v ≠ 0) : (decide (V.int v = V.int 0)) = false := decide_eq_false fun q => e (V.int.inj q)
theorem eqZ_yes {v : Int} (e : v = 0) : (decide (V.int v = V.int 0)) = true := by subst e; rfl
section
variable {P : Program} {w : World} {K : PySem.W.Frag} {mg : Str → Option Value} {base : Heap} {f : Addr} {fd : FuncData}
abbrev s_normal : Stmt := top 22
theorem sc_normal : FnScope ["width", "rows", "zero", "found", "row", "left", "at", "here", "least", "rests", "pivot", "one"] ["width", "rows"] (defScope s_normal) := ⟨rfl, rfl, rfl, by decide +kernel, rfl, by decide +kernel, by decide +kernel⟩
def sp_normal : Sp := fun vs H Q _ => ∃ (n : Nat) (a : Addr) (rows : List Place), vs = [.int (n : Int), .ref a] ∧ LsE ecP H a rows ∧ rows.length ≤ 1 ∧ (∀ r ∈ rows, r.length = n ∧ Bp r) ∧ 1 ≤ n ∧ n ≤ 3 ∧ ∀ H' b, Same H H' → LsE ecP H' b (nrmRs rows) → Q (.ref b) H'
theorem c_normal {fC : Addr} {fdC : FuncData} (F : FnP K "normal" "normal" s_normal f fd) (B : Fre mg) (cC : Cal P w K mg base 1 ["one", "times"] sp_scaled fC fdC) (gC : mg "scaled" = some (.ref fC)) : Cal P w K mg base 2 ["width", "rows"] sp_normal f fd := by
  refine F.cal (F.ok sc_normal (fun vs H Q E h => ?_) (fun cdv A outer s H vs Q E hr h => ?_)) (fun _ _ _ _ _ _ us hl => match us, hl with | [_, _], _ => rfl)
  · obtain ⟨n, a, rows, rfl, _⟩ := h
    rfl
  · obtain ⟨n, a, rows, rfl, ha, hlen, hrow, hn1, hn3, q⟩ := h
    have nd := sc_normal.nd
    refine ⟨_, PSs.nox (pss_cons (ps_asg (pe_tup (pa_cons (pe_op op_repZ (pe_tup (pa_cons pe_int pa_nil)) (pv 0)) (pa_cons (pe_lst pa_nil) pa_nil))) (pg_tup rfl (pgs_cons (pg_name (i := 2) nd rfl (.inr rfl)) (pgs_cons (pg_name (i := 3) nd rfl (.inl rfl)) pgs_nil)))) (pss_cons (ps_setLc (i := 5) (own := [("row", 4)]) (g := gName 4) rfl nd rfl rfl (sw_true rfl rfl rfl (by decide +kernel)) (pi_list (pv 1)) (blkOk_by (N := ["width", "rows", "zero", "found", "row", "left", "at", "here", "least", "rests", "pivot", "one"]) (sc := defScope s_normal) (by decide +kernel)) (fun _ _ _ _ _ => (pg_name (i := 4) nd rfl (.inl rfl))) (fun _ _ _ _ _ => (pts_one (pt_cmpR (r := rNeD K) (op_neD hr.units) (pv 4) (pv 2) (nomark _)))) (fun _ _ _ _ _ => (pv 4))) (pss_cons (ps_for PassesOwn.never rfl (pi_range1 rfl B.range (pa_cons (pv 0) pa_nil)) (pg_name (i := 6) nd rfl (.inr rfl)) (pss_cons (ps_setLc (i := 7) (own := [("row", 4)]) (g := gName 4) rfl nd rfl rfl (sw_true rfl rfl rfl (by decide +kernel)) (pi_list (pv 5)) (blkOk_by (N := ["width", "rows", "zero", "found", "row", "left", "at", "here", "least", "rests", "pivot", "one"]) (sc := defScope s_normal) (by decide +kernel)) (fun _ _ _ _ _ => (pg_name (i := 4) nd rfl (.inl rfl))) (fun _ _ _ _ _ => (pts_one (pt_cmpR op_ne (pe_ix (r := rIxT K) ix_tup (pv 4) (pv 6) (fun _ _ => rfl)) pe_int (nomark _)))) (fun _ _ _ _ _ => (pv 4))) (pss_cons (ps_setLc (i := 5) (own := [("row", 4)]) (g := gName 4) rfl nd rfl rfl (sw_true rfl rfl rfl (by decide +kernel)) (pi_list (pv 5)) (blkOk_by (N := ["width", "rows", "zero", "found", "row", "left", "at", "here", "least", "rests", "pivot", "one"]) (sc := defScope s_normal) (by decide +kernel)) (fun _ _ _ _ _ => (pg_name (i := 4) nd rfl (.inl rfl))) (fun _ _ _ _ _ => (pts_one (pt_cmpR op_eq (pe_ix (r := rIxT K) ix_tup (pv 4) (pv 6) (fun _ _ => rfl)) pe_int (nomark _)))) (fun _ _ _ _ _ => (pv 4))) (pss_cons (ps_while PassesOwn.never (pt_cmpR op_gt (pe_callB call_len_seq (by rfl) B.len PySem.boot_len (pa_cons (pv 7) pa_nil)) pe_int (nomark _)) pss_never) (pss_one (ps_for PassesOwn.never rfl (pi_list (pv 7)) (pg_name (i := 4) nd rfl (.inl rfl)) (pss_cons (ps_set (i := 10) nd rfl (.inr rfl) (pe_ifExp (pt_cmpR op_gt (pe_ix ix_tup (pv 4) (pv 6) (fun _ _ => rfl)) pe_int (nomark _)) (pv 4) (pe_cal cC hr rfl gC (pa_cons (pv 4) (pa_cons (pe_un un_neg pe_int) pa_nil))))) (pss_cons (ps_setLc (i := 3) (own := [("one", 11)]) (g := gName 11) (tt := tYes) rfl nd rfl rfl (sw_true rfl rfl rfl (by decide +kernel)) (pi_list (pv 3)) (blkOk_by (N := ["width", "rows", "zero", "found", "row", "left", "at", "here", "least", "rests", "pivot", "one"]) (sc := defScope s_normal) (by decide +kernel)) (fun _ _ _ _ _ => (pg_name (i := 11) nd rfl (.inl rfl))) (fun _ _ _ _ _ => pts_nil) (fun _ _ _ _ _ => pe_no)) (pss_one (ps_expr (pe_bm PySem.F.plainAttrs_list PySem.F.slot_list_append PySem.F.type_list_append mt_append (pv 3) (pa_cons (pv 10) pa_nil)))))))))))) (pss_one (ps_ret (pv 3)))))), ?_⟩
    have hone : (1 : Nat) ≤ sizeLine := by decide
    have htwo : (2 : Nat) ≤ sizeLine := by decide
    have hthree : (3 : Nat) ≤ sizeLine := by decide
    have hR1 : (nzs rows).length ≤ 1 := Nat.le_trans (List.length_filter_le _ _) hlen
    have hR : ∀ r ∈ nzs rows, r.length = n ∧ Bp r ∧ isZ r = false := fun r hr => by
      have h1 := List.mem_filter.mp hr
      exact ⟨(hrow r h1.1).1, (hrow r h1.1).2, by simpa using h1.2⟩
    have hfm := nz_fm (n := n) rows fun r hr => (hrow r hr).1
    have hnr : nrmRs rows = founds (nzs rows) n := by
      unfold nrmRs founds
      rw [List.filter_eq_self.mpr]
      intro r hr
      obtain ⟨h1, _, h3⟩ := hR r hr
      exact decide_eq_true (h1 ▸ lead_lt h3)
    rw [hnr] at q
    obtain ⟨vs0, ea, eb⟩ := ha
    refine ⟨hone, fun t nt => ⟨_, rfl, t, n, _, rfl, rfl, upd_same, by simp, by omega, by omega, by show 1 ≤ 1000; decide, fun z H1 sm1 hz => ?_⟩⟩
    rw [Int.toNat_natCast, rep_zero] at hz
    refine ⟨Nat.zero_le _, fun l nl => ⟨htwo, fun T nT => ?_⟩⟩
    have s1 : Same H H1 := (same_new nt).trans sm1
    have s2 : Same H1 (upd H1 l (.lst [])) := same_new nl
    have s3 : Same (upd H1 l (.lst [])) (upd (upd H1 l (.lst [])) T (.tup [.ref z, .ref l])) := same_new nT
    have s4 := s1.trans (s2.trans s3)
    refine ⟨T, _, rfl, .of upd_same, rfl, _, _, rfl, _, _, rfl, rfl, ?_⟩
    have hz4 := s3 _ _ (s2 _ _ hz)
    have hl4 := s3 _ _ (upd_same (H := H1) (a := l) (o := .lst []))
    generalize upd (upd H1 l (.lst [])) T (.tup [.ref z, .ref l]) = H4 at s4 hz4 hl4
    refine ⟨_, rfl, a, rfl, ⟨_, .of (s4 _ _ ea)⟩, fun D nD => ?_⟩
    have hsz : vs0.length ≤ sizeLine := by rw [eb.length]; exact Nat.le_trans hlen hone
    refine lc_gen walk_list ecP rows (fun r => if r = zeroP n then none else some r) nD eb.length.symm hsz (fun H5 sm => .of (sm _ _ (s4 _ _ ea))) (fun i x H5 H' b hb sm y N1 N0 k1 k0 => ?_) (fun H5 sm5 hl5 => ?_)
    · obtain ⟨rfl, e⟩ := y
      have hx := LsE.walk eb (Same.tups (s4.trans sm)) e hb
      obtain ⟨r, rfl, hr⟩ := hx
      refine ⟨rfl, _, rfl, _, rfl, rd_neP hr (sm _ _ hz4) ⟨_, rfl, ?_⟩⟩
      by_cases h1 : b = zeroP n
      · exact iteN (by rw [decide_eq_true h1]; rfl) (k0 _ (if_pos h1) (Same.refl _))
      · exact iteY (by rw [decide_eq_false h1]; rfl) ⟨_, rfl, k1 _ _ _ (if_neg h1) ⟨r, rfl, hr⟩ (Same.refl _)⟩
    · rw [hfm] at hl5
      generalize nzs rows = R at hR1 hR q hl5
      refine ⟨_, rfl, _, rfl, by omega, by omega, ?_⟩
      rw [Int.toNat_natCast]
      have hl0 : lefts R 0 = R := List.filter_eq_self.mpr fun r _ => decide_eq_true (Nat.zero_le _)
      have hf0 : founds R 0 = [] := by
        unfold founds
        rw [List.filter_eq_nil_iff.mpr]
        · rfl
        · intro r _ q
          have := of_decide_eq_true q
          omega
      refine for_it walk_range (fun i σ H6 => ∃ y4 y6 y7 y8 y9 y10 y11 fa la, σ = [some (.int (n : Int)), some (.ref a), some (.ref z), some (.ref fa), y4, some (.ref la), y6, y7, y8, y9, y10, y11] ∧ Same H H6 ∧ LsE ecP H6 la (lefts R i) ∧ LsE ecP H6 fa (founds R i))
        ⟨_, _, _, _, _, _, _, l, D, rfl, s4.trans sm5, by rw [hl0]; exact hl5, [], sm5 _ _ hl4, by rw [hf0]; exact .nil⟩ (fun _ _ _ _ _ => trivial) (fun i x σ H6 H' hi pv y => ?_) (fun σ H6 pv => ?_)
      · obtain ⟨y4, y6, y7, y8, y9, y10, y11, fa, la, rfl, s6, hla, hfa⟩ := pv
        obtain ⟨rfl, e0⟩ := y
        have e0 : x = .int ((0 : Int) + (i : Nat)) := e0
        rw [Int.zero_add] at e0
        subst e0
        obtain ⟨vl, el, al⟩ := hla
        have hRl : ∀ r ∈ lefts R i, r.length = n ∧ Bp r ∧ isZ r = false := fun r hr => hR r (List.mem_filter.mp hr).1
        have hvl : vl.length ≤ sizeLine := by
          rw [al.length]
          exact Nat.le_trans (List.length_filter_le _ _) (Nat.le_trans hR1 hone)
        refine ⟨_, rfl, la, rfl, ⟨_, .of el⟩, fun D1 nD1 => ?_⟩
        refine lc_gen walk_list ecP (lefts R i) (fun r => if r.getD i 0 = 0 then none else some r) nD1 al.length.symm hvl (fun H7 sm => .of (sm _ _ el)) (fun j x H7 H8 b hb sm y N1 N0 k1 k0 => ?_) (fun H7 sm7 hl7 => ?_)
        · obtain ⟨rfl, e⟩ := y
          obtain ⟨r, rfl, hr⟩ := LsE.walk al (Same.tups sm) e hb
          obtain ⟨h1, h2, h3⟩ := hRl b (List.mem_of_getElem? hb)
          refine ⟨rfl, _, rfl, _, rfl, r, _, _, _, rfl, rfl, .of hr, atI_nat (int_at (by omega)), rfl, _, rfl, ?_⟩
          by_cases e0 : b.getD i 0 = 0
          · exact iteN (neZ_no e0) (k0 _ (if_pos e0) (Same.refl _))
          · exact iteY (neZ_yes e0) ⟨_, rfl, k1 _ _ _ (if_neg e0) ⟨r, rfl, hr⟩ (Same.refl _)⟩
        · rw [lefts_here R i fun r hr => (hR r hr).2.2] at hl7
          refine ⟨_, rfl, la, rfl, ⟨_, .of (sm7 _ _ el)⟩, fun D2 nD2 => ?_⟩
          refine lc_gen walk_list ecP (lefts R i) (fun r => if r.getD i 0 = 0 then some r else none) nD2 al.length.symm hvl (fun H8 sm => .of (sm _ _ (sm7 _ _ el))) (fun j x H8 H9 b hb sm y N1 N0 k1 k0 => ?_) (fun H8 sm8 hl8 => ?_)
          · obtain ⟨rfl, e⟩ := y
            obtain ⟨r, rfl, hr⟩ := LsE.walk al (Same.tups (sm7.trans sm)) e hb
            obtain ⟨h1, h2, h3⟩ := hRl b (List.mem_of_getElem? hb)
            refine ⟨rfl, _, rfl, _, rfl, r, _, _, _, rfl, rfl, .of hr, atI_nat (int_at (by omega)), rfl, _, rfl, ?_⟩
            by_cases e0 : b.getD i 0 = 0
            · exact iteY (eqZ_yes e0) ⟨_, rfl, k1 _ _ _ (if_pos e0) ⟨r, rfl, hr⟩ (Same.refl _)⟩
            · exact iteN (eqZ_no e0) (k0 _ (if_neg e0) (Same.refl _))
          · rw [lefts_left R i fun r hr => (hR r hr).2.2] at hl8
            obtain ⟨vh, eh, ah⟩ := hl7.same sm8
            have hhl : (heres R i).length ≤ 1 := Nat.le_trans (List.length_filter_le _ _) hR1
            have hvh : vh.length ≤ 1 := by rw [ah.length]; exact hhl
            refine ⟨fun _ σ' H' => σ' = _ ∧ H' = H8, ⟨0, rfl, rfl⟩, fun m σ' H9 e9 => ?_⟩
            obtain ⟨e91, e92⟩ := e9
            subst e91 e92
            refine ⟨_, rfl, D1, _, rfl, .inl (.of eh), _, _, rfl, rfl, _, rfl, ?_⟩
            refine iteN (decide_eq_false (by omega)) ?_
            refine ⟨_, rfl, D1, rfl, ⟨_, .of eh⟩, ?_⟩
            have s8 := s6.trans (sm7.trans sm8)
            refine for_it walk_list (fun j σ H10 => ∃ y4 y10 y11 fa, σ = [some (.int (n : Int)), some (.ref a), some (.ref z), some (.ref fa), y4, some (.ref D2), some (.int (i : Int)), some (.ref D1), y8, y9, y10, y11] ∧ Same H9 H10 ∧ LsE ecP H10 fa (founds R i ++ ((heres R i).take j).map nrm1))
              ⟨_, _, _, fa, rfl, Same.refl _, by rw [List.take_zero, List.map_nil, List.append_nil]; exact hfa.same (sm7.trans sm8)⟩ (fun j σ H10 _ ⟨_, _, _, _, _, sm, _⟩ => .of (sm _ _ eh)) (fun j x σ H10 H11 hj pv y => ?_) (fun σ H10 pv => ?_)
            · obtain ⟨y4, y10, y11, fa, rfl, sm, hfa⟩ := pv
              obtain ⟨rfl, e⟩ := y
              cases eh2 : heres R i with
              | nil =>
                rw [eh2] at ah
                have := ah.length
                rw [List.length_nil] at this
                omega
              | cons r rest =>
                obtain ⟨h1, h2, h3, h4⟩ := heres_one hR1 i eh2
                subst h2
                have hj0 : j = 0 := by omega
                subst hj0
                obtain ⟨ra, rfl, hr⟩ := LsE.walk ah (Same.tups sm) e (b := r) (by rw [eh2]; rfl)
                rw [h1, eh2] at hfa
                rw [h1]
                obtain ⟨g1, g2, g3⟩ := hR r (by rw [h3]; exact List.mem_cons_self ..)
                have hld : r.getD i 0 = lead r := by rw [← h4]; rfl
                refine ⟨_, rfl, _, rfl, ra, _, _, _, rfl, rfl, .of hr, atI_nat (int_at (by omega)), _, _, rfl, rfl, _, rfl, ?_⟩
                by_cases hp : r.getD i 0 > 0
                · refine iteY (decide_eq_true hp) ⟨_, rfl, ?_⟩
                  have hpv : IT H11 ra (nrm1 r) := by unfold nrm1; rw [if_pos (hld ▸ hp)]; exact hr
                  · obtain ⟨vf, ef, af⟩ := hfa.same (Same.refl _)
                    refine ⟨_, rfl, fa, rfl, ⟨_, .of ef⟩, fun D3 nD3 => ?_⟩
                    refine lc_gen walk_list ecP ([] : List Place) (fun r => some r) nD3 af.length.symm (by rw [af.length]; exact Nat.zero_le _) (fun H13 sm => .of (sm _ _ ef)) (fun j x H13 H14 b hb => by simp at hb) (fun H13 sm13 hl13 => ?_)
                    obtain ⟨v3, e3, a3⟩ := hl13
                    refine ⟨_, rfl, .inl ⟨rfl, _, .of e3⟩, _, rfl, D3, _, _, rfl, rfl, e3, by rw [a3.length]; exact Nat.lt_of_lt_of_le (by decide) hone, ?_⟩
                    refine ⟨_, _, _, D3, rfl, same_over ((sm.trans (Same.refl _)).trans sm13) (Same.free (sm.trans (Same.refl _)) nD3), ?_⟩
                    have := LsE.push e3 a3 (ecP.keep (Same.tups sm13) ⟨ra, rfl, hpv⟩)
                    exact this
                · refine iteN (decide_eq_false hp) ⟨_, rfl, _, rfl, ra, r, -1, rfl, hr, by omega, by decide, by decide, fun H12 pa sm12 hpa => ?_⟩
                  have hpv : IT H12 pa (nrm1 r) := by unfold nrm1; rw [if_neg (fun q => hp (hld ▸ q))]; exact hpa
                  · obtain ⟨vf, ef, af⟩ := hfa.same sm12
                    refine ⟨_, rfl, fa, rfl, ⟨_, .of ef⟩, fun D3 nD3 => ?_⟩
                    refine lc_gen walk_list ecP ([] : List Place) (fun r => some r) nD3 af.length.symm (by rw [af.length]; exact Nat.zero_le _) (fun H13 sm => .of (sm _ _ ef)) (fun j x H13 H14 b hb => by simp at hb) (fun H13 sm13 hl13 => ?_)
                    obtain ⟨v3, e3, a3⟩ := hl13
                    refine ⟨_, rfl, .inl ⟨rfl, _, .of e3⟩, _, rfl, D3, _, _, rfl, rfl, e3, by rw [a3.length]; exact Nat.lt_of_lt_of_le (by decide) hone, ?_⟩
                    refine ⟨_, _, _, D3, rfl, same_over ((sm.trans (sm12)).trans sm13) (Same.free (sm.trans (sm12)) nD3), ?_⟩
                    have := LsE.push e3 a3 (ecP.keep (Same.tups sm13) ⟨pa, rfl, hpv⟩)
                    exact this
            · obtain ⟨y4, y10, y11, fa, rfl, sm, hfa⟩ := pv
              have e1 : (heres R i).take vh.length = heres R i := by rw [ah.length, List.take_length]
              rw [e1, founds_succ hR1] at hfa
              exact ⟨_, _, _, _, _, _, _, fa, D2, rfl, s8.trans sm, hl8.same sm, hfa⟩
      · obtain ⟨y4, y6, y7, y8, y9, y10, y11, fa, la, rfl, s6, hla, hfa⟩ := pv
        exact ⟨_, rfl, q _ _ s6 hfa⟩
end
end K35
/-! text D7 -/
set_option Elab.async false
set_option linter.all false
set_option maxRecDepth 100000
set_option maxHeartbeats 4000000
/-! tables -/
namespace K35
open PySem PySem.Spec PyProof.Rows L2
/-- enumerate over a list or a tuple -/
def iEnumA (K : PySem.W.Frag) (ta : TA) : TI := fun σ H R => ta σ H fun vs H1 => ∃ a xs, vs = [.ref a] ∧ ((SqL K H1 a xs ∧ R (Ite K a) H1) ∨ (SqT K H1 a xs ∧ R (IteT K a) H1))
theorem pi_enumA {X : Cx} {e : Expr} {ta : TA} {p pos tpos : Pos} {elts : List Expr} {kk : Nat} (hg : Gl X "enumerate") (hm : X.mg "enumerate" = none) (ha : PA X [e] ta) (hs : starEach [e] X.env = [(false, eval e X.env)] := by rfl) :
    PI X (.Tuple elts kk tpos) (.Call (.Name "enumerate" p) [e] [] pos) (iEnumA X.K ta) := by
  refine ⟨fun pins s σ H R I h => ?_⟩
  refine Call_ (ld_blt I hg hm boot_enumerate (PyProof.Rows.callWith_type1 (thn (ha.run pos pins s σ H _ I h) fun us s1 ⟨vs, H1, I1, r1, q1⟩ => ?_) hs rfl))
  obtain ⟨a, xs, ex, q1⟩ := q1
  subst ex
  cases r1 with
  | cons r rr =>
    cases rr
    cases r
    rcases q1 with ⟨hq, q⟩ | ⟨hq, q⟩
    · obtain ⟨its, rv, p', hz⟩ := I1.list hq
      refine call_enumerate_list p'.isList fun h' he hit hsz hk => wpAny_pyIter_enum he ?_
      have I2 : Inv X pins σ H1 { s1 with heap := h' } := I1.kept (t' := s1.toks) hk
      refine ⟨s1.heap.objs.size + 1, [s1.heap.objs.size + 1, s1.heap.objs.size], _, _, H1, rfl, I2, turn_enum a (s1.heap.objs.size + 1) s1.heap.objs.size, ⟨⟨.none, he⟩, hit, Nat.succ_ne_self _⟩, fun b hb => ?_, q⟩
      have e' : b = s1.heap.objs.size + 1 ∨ b = s1.heap.objs.size := by simpa using hb
      have hle : s1.heap.objs.size ≤ b := by
        rcases e' with z | z
        · rw [z]; exact Nat.le_add_right _ _
        · rw [z]; exact Nat.le_refl _
      exact I1.fpOk hle (I1.hok.fresh hle)
    · obtain ⟨its, rv, p', hz⟩ := I1.tuple hq
      have hal : a < s1.heap.objs.size := by obtain ⟨o, ho, _⟩ := p'; exact Heap.lt_size ho
      refine enum_begins1 (begins_tuple a its.toArray) p' fun h' he hit hsz hk => wpAny_pyIter_enum he ?_
      have I2 : Inv X pins σ H1 { s1 with heap := h' } := I1.kept (t' := s1.toks) hk
      have hna : a ≠ s1.heap.objs.size := Nat.ne_of_lt hal
      have hna1 : s1.heap.objs.size + 1 ≠ a := Nat.ne_of_gt (Nat.lt_succ_of_lt hal)
      refine ⟨s1.heap.objs.size + 1, [s1.heap.objs.size + 1, s1.heap.objs.size], _, _, H1, rfl, I2, turn_enumT a (s1.heap.objs.size + 1) s1.heap.objs.size hna, ⟨⟨.none, he⟩, ⟨_, hit, rfl, rfl⟩, Nat.succ_ne_self _, hna1⟩, fun b hb => ?_, q⟩
      have e' : b = s1.heap.objs.size + 1 ∨ b = s1.heap.objs.size := by simpa using hb
      have hle : s1.heap.objs.size ≤ b := by
        rcases e' with z | z
        · rw [z]; exact Nat.le_add_right _ _
        · rw [z]; exact Nat.le_refl _
      exact I1.fpOk hle (I1.hok.fresh hle)
/-- all but the object at x stand as they stood -/
def SameX (x : Addr) (H H' : Hp) : Prop := ∀ b o, b ≠ x → H b = some o → H' b = some o
theorem SameX.refl (x : Addr) (H : Hp) : SameX x H H := fun _ _ _ e => e
theorem SameX.trans {x : Addr} {H H1 H2 : Hp} (a : SameX x H H1) (b : SameX x H1 H2) : SameX x H H2 := fun c o n e => b c o n (a c o n e)
theorem Same.x {x : Addr} {H H' : Hp} (s : Same H H') : SameX x H H' := fun b o _ e => s b o e
theorem sameX_upd {x : Addr} {H : Hp} {o : HO} : SameX x H (upd H x o) := fun b u n e => by rw [upd_ne n]; exact e
theorem ne_ins {H : Hp} {x b C dx : Addr} {fs : List (Str × V)} {o : HO} (hx : H x = some (.ins C dx fs)) (hb : H b = some o) (no : ∀ C dx fs, o ≠ .ins C dx fs) : b ≠ x := by
  rintro rfl
  rw [hx] at hb
  exact no _ _ _ (Option.some.inj hb).symm
section
variable {α : Type} {E : EC α} {H H' : Hp} {x C dx a : Addr} {fs : List (Str × V)} {l : List α}
theorem SameX.tups (s : SameX x H H') (hx : H x = some (.ins C dx fs)) : STup H H' := fun b xs e => s b _ (ne_ins hx e fun _ _ _ z => nomatch z) e
theorem LsE.sameX (h : LsE E H a l) (s : SameX x H H') (hx : H x = some (.ins C dx fs)) : LsE E H' a l :=
  let ⟨vs, e, q⟩ := h; ⟨vs, s _ _ (ne_ins hx e fun _ _ _ z => nomatch z) e, E.allKeep (s.tups hx) q⟩
end
/-- at a stands a table of width n with normal rows R -/
def TabAt (C : Addr) (H : Hp) (a : Addr) (n : Nat) (R : List Place) : Prop := ∃ dx nr ld id it sz, H a = some (.ins C dx [("own_width", .int (n : Int)), ("normal_rows", .ref nr), ("leads", .ref ld), ("identity", .ref id), ("own_size", sz)]) ∧
  LsE ecP H nr R ∧ LsE ecN H ld (R.map leadP) ∧ H id = some (.tup [.int (n : Int), .ref it]) ∧ ∃ vs, H it = some (.tup vs) ∧ ecP.all H vs R
theorem TabAt.same {C : Addr} {H H' : Hp} {a : Addr} {n : Nat} {R : List Place} (h : TabAt C H a n R) (s : Same H H') : TabAt C H' a n R := by
  obtain ⟨dx, nr, ld, id, it, sz, h1, h2, h3, h4, vs, h5, h6⟩ := h
  exact ⟨dx, nr, ld, id, it, sz, s _ _ h1, h2.same s, h3.same s, s _ _ h4, vs, s _ _ h5, ecP.allKeep (Same.tups s) h6⟩
theorem TabAt.sameX {C C' dx' x : Addr} {fs : List (Str × V)} {H H' : Hp} {a : Addr} {n : Nat} {R : List Place} (h : TabAt C H a n R) (s : SameX x H H') (hx : H x = some (.ins C' dx' fs)) (hn : a ≠ x) : TabAt C H' a n R := by
  obtain ⟨dx, nr, ld, id, it, sz, h1, h2, h3, h4, vs, h5, h6⟩ := h
  exact ⟨dx, nr, ld, id, it, sz, s _ _ hn h1, h2.sameX s hx, h3.sameX s hx, s.tups hx _ _ h4, vs, s.tups hx _ _ h5, ecP.allKeep (s.tups hx) h6⟩
structure TabF (K : PySem.W.Frag) (C : Addr) : Prop where
  cl : Cls K C
  own_width : NoAttr K C "own_width"
  normal_rows : NoAttr K C "normal_rows"
  leads : NoAttr K C "leads"
  identity : NoAttr K C "identity"
  own_size : NoAttr K C "own_size"
section
variable {P : Program} {w : World} {K : PySem.W.Frag} {mg : Str → Option Value} {base : Heap} {f : Addr} {fd : FuncData}
/-! size_of -/
abbrev s_size_of : Stmt := top 23
theorem sc_size_of : FnScope ["width", "rows", "found", "at", "row"] ["width", "rows"] (defScope s_size_of) := ⟨rfl, rfl, rfl, by decide +kernel, rfl, by decide +kernel, by decide +kernel⟩
def sp_size_of : Sp := fun vs H Q _ => ∃ (n : Nat) (a : Addr) (R : List Place), vs = [.int (n : Int), .ref a] ∧ LsE ecP H a R ∧ R.length ≤ 1 ∧ (∀ r ∈ R, r.length = n) ∧ 1 ≤ n ∧ ∀ H' v, Same H H' → Q v H'
theorem c_size_of (F : FnP K "size_of" "size_of" s_size_of f fd) (B : Fre mg) : Cal P w K mg base 1 ["width", "rows"] sp_size_of f fd := by
  refine F.cal (F.ok sc_size_of (fun vs H Q E h => ?_) (fun cdv A outer s H vs Q E hr h => ?_)) (fun _ _ _ _ _ _ us hl => match us, hl with | [_, _], _ => rfl)
  · obtain ⟨n, a, R, rfl, _⟩ := h
    rfl
  · obtain ⟨n, a, R, rfl, ha, hl, hr2, hn, q⟩ := h
    have nd := sc_size_of.nd
    refine ⟨_, PSs.nox (pss_cons (ps_if (pt_cmpR op_lt (pe_callB call_len_seq (by rfl) B.len PySem.boot_len (pa_cons (pv 1) pa_nil)) (pv 0) (nomark _)) (pss_one (ps_ret pe_non)) pss_nil) (pss_cons (ps_set (i := 2) nd rfl (.inl rfl) pe_int) (pss_cons (ps_for PassesOwn.never rfl (pi_enum rfl B.enumerate (pa_cons (pv 1) pa_nil)) (pg_tup rfl (pgs_cons (pg_name (i := 3) nd rfl (.inl rfl)) (pgs_cons (pg_name (i := 4) nd rfl (.inl rfl)) pgs_nil))) (pss_one (ps_aug (i := 2) nd rfl (.inl rfl) (pe_ix ix_tup (pv 4) (pv 3) (fun _ _ => rfl)) iop_mul))) (pss_one (ps_ret (pv 2)))))), ?_⟩
    obtain ⟨vs, e, al⟩ := ha
    have hvl := al.length
    refine ⟨_, rfl, a, _, rfl, .inl (.of e), _, rfl, _, _, rfl, rfl, _, rfl, ?_⟩
    by_cases h : ((vs.length : Nat) : Int) < (n : Int)
    · exact iteY (decide_eq_true h) (q _ _ (Same.refl _))
    · refine iteN (decide_eq_false h) ⟨_, rfl, a, _, rfl, .of e, ?_⟩
      refine for_it walk_enum (fun i σ H1 => ∃ y3 y4 v, σ = [some (.int (n : Int)), some (.ref a), some (.int v), y3, y4] ∧ Same H H1 ∧ (i = 0 → v = 1)) ⟨_, _, _, rfl, Same.refl _, fun _ => rfl⟩ (fun i σ H1 _ ⟨_, _, _, _, sm, _⟩ => .of (sm _ _ e)) (fun i x σ H1 H' hi pv y => ?_) (fun σ H1 pv => ?_)
      · obtain ⟨y3, y4, v, rfl, sm, hv⟩ := pv
        obtain ⟨T, x1, x2, rfl, nT, rfl, e1, e2⟩ := y
        have e1 := (Option.some.inj e1).symm
        subst e1
        have hi0 : i = 0 := by omega
        subst hi0
        have hR : R.length = 1 := by omega
        obtain ⟨r, rfl⟩ : ∃ r, R = [r] := by
          match R, hR with
          | [r], _ => exact ⟨r, rfl⟩
        have hrl := hr2 r (List.mem_singleton.mpr rfl)
        obtain ⟨ra, rfl, hra⟩ := LsE.walk al (Same.tups sm) e2 (b := r) rfl
        refine ⟨T, _, rfl, .of upd_same, rfl, _, _, rfl, _, _, rfl, rfl, ?_⟩
        rw [hv rfl]
        refine ⟨_, rfl, _, rfl, _, rfl, ra, _, _, _, rfl, rfl, .of (same_new nT _ _ hra), atI_nat (j := 0) (int_at (by omega)), _, _, rfl, rfl, .inl ⟨by decide, by decide⟩, ?_⟩
        exact ⟨_, _, _, rfl, sm.trans (same_new nT), fun q => absurd q (by omega)⟩
      · obtain ⟨y3, y4, v, rfl, sm, hv⟩ := pv
        exact ⟨_, rfl, q _ _ sm⟩
end
end K35
/-! text D8 -/
set_option Elab.async false
set_option linter.all false
set_option maxRecDepth 100000
set_option maxHeartbeats 4000000
/-! tables, 2 -/
namespace K35
open PySem PySem.Spec PyProof.Rows L2
section
variable {P : Program} {w : World} {K : PySem.W.Frag} {mg : Str → Option Value} {base : Heap} {f C : Addr} {fd : FuncData}
abbrev s_tinit : Stmt := inClass (top 24) 0
theorem sc_tinit : FnScope ["self", "width", "rows", "at", "row"] ["self", "width", "rows"] (defScope s_tinit) := ⟨rfl, rfl, rfl, by decide +kernel, rfl, by decide +kernel, by decide +kernel⟩
def sp_tinit (K : PySem.W.Frag) (C : Addr) : Sp := fun vs H Q _ => ∃ (x dx r : Addr) (n : Nat) (R : List Place), vs = [.ref x, .int (n : Int), .ref r] ∧ ((R = [] ∧ SqT K H r []) ∨ LsE ecP H r R) ∧ R.length ≤ 1 ∧ (∀ c ∈ R, c.length = n ∧ Bp c) ∧ 1 ≤ n ∧ n ≤ 3 ∧ H x = some (.ins C dx []) ∧
  ∀ H', SameX x H H' → TabAt C H' x n (nrmRs R) → Q .non H'
theorem mulP_len (k : Int) (p : Place) : (mulP k p).length = p.length := by simp [mulP]
theorem nrm1_len (p : Place) : (nrm1 p).length = p.length := by
  unfold nrm1
  split
  · rfl
  · exact mulP_len _ _
theorem mulP_at (k : Int) (p : Place) (i : Nat) : (mulP k p).getD i 0 = k * p.getD i 0 := by
  unfold mulP
  rw [List.getD_eq_getElem?_getD, List.getD_eq_getElem?_getD, List.getElem?_map]
  cases p[i]? with
  | none => simp
  | some x => rfl
theorem isZ_mul (p : Place) : isZ (mulP (-1) p) = isZ p := by
  unfold isZ mulP
  rw [List.all_map]
  congr 1
  funext x
  rw [Bool.eq_iff_iff]
  simp
theorem isZ_nrm1 (p : Place) : isZ (nrm1 p) = isZ p := by
  unfold nrm1
  split
  · rfl
  · exact isZ_mul p
theorem nrmRs_mem {R : List Place} {r : Place} (h : r ∈ nrmRs R) : isZ r = false ∧ ∃ c ∈ R, r = nrm1 c := by
  unfold nrmRs nzs at h
  obtain ⟨c, hc, rfl⟩ := List.mem_map.mp h
  obtain ⟨h1, h2⟩ := List.mem_filter.mp hc
  exact ⟨by rw [isZ_nrm1]; simpa using h2, c, h1, rfl⟩
theorem nrmRs_len (R : List Place) : (nrmRs R).length ≤ R.length := by
  unfold nrmRs nzs
  rw [List.length_map]
  exact List.length_filter_le _ _
theorem ok_tinit {v : V} {fN fC2 fM fL fZ : Addr} {fdN fdC2 fdM fdL fdZ : FuncData} {tM : Tok} (F : FunD K "__init__" "Table.__init__" (defArgs s_tinit) (defBody s_tinit) (defScope s_tinit) [v] [] f fd) (B : Fre mg) (Tf : TabF K C) (gM : mg "MOST_WIDTH" = some (.int 3 tM))
    (cN : Cal P w K mg base 1 ["value"] sp_is_number fN fdN) (gN : mg "is_number" = some (.ref fN)) (cC : Cal P w K mg base 2 ["value", "width"] sp_is_counts fC2 fdC2) (gC : mg "is_counts" = some (.ref fC2))
    (cR : Cal P w K mg base 2 ["width", "rows"] sp_normal fM fdM) (gR : mg "normal" = some (.ref fM)) (cL : Cal P w K mg base 1 ["row"] sp_lead_of fL fdL) (gL : mg "lead_of" = some (.ref fL)) (cZ : Cal P w K mg base 1 ["width", "rows"] sp_size_of fZ fdZ) (gZ : mg "size_of" = some (.ref fZ)) :
    FnOk P w K mg base CX0 3 f fd ["self", "width", "rows"] (sp_tinit K C) := by
  refine F.ok sc_tinit (fun vs H Q E h => ?_) (fun cdv A outer s H vs Q E hr h => ?_)
  · obtain ⟨x, dx, r, n, R, rfl, _⟩ := h
    rfl
  · obtain ⟨x, dx, r, n, R, rfl, hrw, hR1, hR, hn1, hn3, hx, q⟩ := h
    have nd := sc_tinit.nd
    refine ⟨_, PSs.nox (pss_cons (ps_if (PW.pt (pw_or (pt_not (pt_val (pe_cal cN (hr.mono (by decide)) rfl gN (pa_cons (pv 1) pa_nil)))) (pw_or1 (pt_not (pt_chain op_le op_le pe_int (pv 1) (pe_glob (v := .int 3) rfl gM ⟨tM, rfl⟩)))))) (pss_one ps_never) pss_nil) (pss_cons (ps_for PassesOwn.never rfl (pi_enumA rfl B.enumerate (pa_cons (pv 2) pa_nil)) (pg_tup rfl (pgs_cons (pg_name (i := 3) nd rfl (.inl rfl)) (pgs_cons (pg_name (i := 4) nd rfl (.inl rfl)) pgs_nil))) (pss_one (ps_if (pt_not (pt_val (pe_cal cC (hr.mono (by decide)) rfl gC (pa_cons (pv 4) (pa_cons (pv 1) pa_nil))))) (pss_one ps_never) pss_nil))) (pss_cons (ps_fld (pv 0) (pv 1) rfl) (pss_cons (ps_fld (pv 0) (pe_cal cR (hr.mono (by decide)) rfl gR (pa_cons (pv 1) (pa_cons (pe_callTy call_list_of (by rfl) B.list (by decide +kernel) (pa_cons (pv 2) pa_nil)) pa_nil))) rfl) (pss_cons (ps_fld (pv 0) (pe_lc (own := [("row", 4)]) (g := gName 4) (tt := tYes) rfl nd (pi_list (pe_fld (pv 0) rfl)) (blkOk_by (N := ["self", "width", "rows", "at", "row"]) (sc := defScope s_tinit) (by decide +kernel)) (fun _ _ _ _ _ => (pg_name (i := 4) nd rfl (.inl rfl))) (fun _ _ _ _ _ => pts_nil) (fun _ _ _ _ _ => (pe_cal cL (hr.mono (by decide)) rfl gL (pa_cons (pv 4) pa_nil)))) rfl) (pss_cons (ps_fld (pv 0) (pe_tup (pa_cons (pv 1) (pa_cons (pe_callTy call_tuple_of (by rfl) B.tuple (by decide +kernel) (pa_cons (pe_fld (pv 0) rfl) pa_nil)) pa_nil))) rfl) (pss_one (ps_fld (pv 0) (pe_cal cZ (hr.mono (by decide)) rfl gZ (pa_cons (pv 1) (pa_cons (pe_fld (pv 0) rfl) pa_nil))) rfl)))))))), ?_⟩
    refine ⟨_, rfl, n, rfl, true, rfl, ?_⟩
    refine iteN rfl ?_
    refine ⟨_, rfl, _, _, rfl, rfl, _, rfl, iteY (decide_eq_true (by omega)) ⟨_, _, rfl, rfl, _, rfl, ?_⟩⟩
    refine iteN (by rw [decide_eq_true (by omega)]; rfl) ?_
    have h3 : (3 : Nat) ≤ sizeLine := by decide
    have hRl : ∀ c ∈ R, c.length = n := fun c hc => (hR c hc).1
    rcases hrw with ⟨rfl, hT⟩ | hL
    · refine ⟨_, rfl, r, [], rfl, .inr ⟨hT, ?_⟩⟩
      have hsq : ∀ H', Same H H' → SqT K H' r [] := fun H' sm => by
        rcases hT with (e | ⟨o, e⟩) | e
        · exact .inl (.inl (sm _ _ e))
        · exact .inl (.inr ⟨o, sm _ _ e⟩)
        · exact .inr e
      refine for_it (walk_enumT (xs := [])) (fun i σ H1 => ∃ y3 y4, σ = [some (.ref x), some (.int (n : Int)), some (.ref r), y3, y4] ∧ Same H H1) ⟨_, _, rfl, Same.refl _⟩ (fun i σ H1 _ ⟨_, _, _, sm⟩ => hsq _ sm) (fun i x σ H1 H' hi pv y => absurd hi (Nat.not_lt_zero _)) (fun σ H1 pv => ?_)
      obtain ⟨y3, y4, rfl, sm⟩ := pv
      have hlo : ∀ H', Same H H' → SqL K H' r [] ∨ SqT K H' r [] := fun H' s => .inr (hsq H' s)
      have hal : ecP.all H [] ([] : List Place) := .nil
      have s1 : SameX x H H1 := Same.x sm
      -- own_width
      refine ⟨_, rfl, _, rfl, x, C, dx, _, rfl, sm _ _ hx, Tf.cl, Tf.own_width, by decide, ?_⟩
      have hx2 : upd H1 x (.ins C dx (putF "own_width" (.int (n : Int)) [])) x = some (.ins C dx [("own_width", .int (n : Int))]) := upd_same
      have s2 : SameX x H _ := s1.trans (sameX_upd (o := .ins C dx (putF "own_width" (.int (n : Int)) [])))
      have hlo2 : SqL K (upd H1 x (.ins C dx (putF "own_width" (.int (n : Int)) []))) r ([] : List V) ∨ SqT K (upd H1 x (.ins C dx (putF "own_width" (.int (n : Int)) []))) r ([] : List V) := by
        rcases hT with (e | ⟨o, e⟩) | e
        · exact .inr (.inl (.inl (s2.tups hx _ _ e)))
        · exact .inr (.inl (.inr ⟨o, s2 _ _ (ne_ins hx e fun _ _ _ z => nomatch z) e⟩))
        · exact .inr (.inr e)
      generalize upd H1 x (.ins C dx (putF "own_width" (.int (n : Int)) [])) = H2 at hx2 s2 hlo2
      -- normal_rows
      refine ⟨_, rfl, _, rfl, r, _, rfl, hlo2, fun l nl => ?_⟩
      have al3 : ecP.all (upd H2 l (.lst ([] : List V))) ([] : List V) ([] : List Place) := ecP.allKeep (STup.trans (s2.tups hx) (Same.tups (same_new nl))) hal
      refine ⟨n, l, ([] : List Place), rfl, ⟨_, upd_same, al3⟩, hR1, hR, hn1, hn3, fun H3 b sm3 hb => ?_⟩
      have s3 : SameX x H H3 := s2.trans (Same.x ((same_new nl).trans sm3))
      have hx3 := sm3 _ _ (same_new (o := .lst ([] : List V)) nl _ _ hx2)
      refine ⟨_, rfl, x, C, dx, _, rfl, hx3, Tf.cl, Tf.normal_rows, by simp, ?_⟩
      have hx4 : upd H3 x (.ins C dx (putF "normal_rows" (.ref b) [("own_width", .int (n : Int))])) x = some (.ins C dx [("own_width", .int (n : Int)), ("normal_rows", .ref b)]) := upd_same
      have t4 : SameX x H3 _ := sameX_upd (o := .ins C dx (putF "normal_rows" (.ref b) [("own_width", .int (n : Int))]))
      have hb4 := hb.sameX t4 hx3
      have s4 := s3.trans t4
      generalize upd H3 x (.ins C dx (putF "normal_rows" (.ref b) [("own_width", .int (n : Int))])) = H4 at hx4 hb4 s4
      have hN1 : (nrmRs ([] : List Place)).length ≤ 1 := Nat.le_trans (nrmRs_len _) hR1
      have hNl : ∀ r ∈ nrmRs ([] : List Place), r.length = n ∧ isZ r = false := fun r hr => by
        obtain ⟨h1, c, h2, rfl⟩ := nrmRs_mem hr
        exact ⟨by rw [nrm1_len]; exact (hR c h2).1, h1⟩
      generalize nrmRs ([] : List Place) = NR at hb4 q hN1 hNl
      -- leads
      obtain ⟨vb, eb, ab⟩ := hb4
      refine ⟨_, rfl, x, C, dx, _, _, rfl, hx4, Tf.cl, Tf.normal_rows, rfl, b, rfl, ⟨_, .of eb⟩, fun D nD => ?_⟩
      refine lc_gen walk_list ecN NR (fun r => some (leadP r)) nD ab.length.symm (by rw [ab.length]; omega) (fun H5 sm => .of (sm _ _ eb)) (fun i x1 H5 H6 c hc sm y N1 N0 k1 k0 => ?_) (fun H5 sm5 hl5 => ?_)
      · obtain ⟨rfl, e⟩ := y
        obtain ⟨ra, rfl, hra⟩ := LsE.walk ab (Same.tups sm) e hc
        obtain ⟨h1, h2⟩ := hNl c (List.mem_of_getElem? hc)
        exact ⟨rfl, _, rfl, ra, c, rfl, hra, h2, by omega, fun H7 sm7 => k1 _ _ _ rfl rfl sm7⟩
      rw [fm_some] at hl5
      have s5 : SameX x H H5 := s4.trans (Same.x sm5)
      have hx5 := sm5 _ _ hx4
      refine ⟨_, rfl, x, C, dx, _, rfl, hx5, Tf.cl, Tf.leads, by simp, ?_⟩
      have hx6 : upd H5 x (.ins C dx (putF "leads" (.ref D) [("own_width", .int (n : Int)), ("normal_rows", .ref b)])) x = some (.ins C dx [("own_width", .int (n : Int)), ("normal_rows", .ref b), ("leads", .ref D)]) := upd_same
      have t6 : SameX x H5 _ := sameX_upd (o := .ins C dx (putF "leads" (.ref D) [("own_width", .int (n : Int)), ("normal_rows", .ref b)]))
      have hl6 := hl5.sameX t6 hx5
      have hb6 : LsE ecP _ b NR := LsE.sameX ⟨vb, sm5 _ _ eb, ecP.allKeep (Same.tups sm5) ab⟩ t6 hx5
      have s6 := s5.trans t6
      generalize upd H5 x (.ins C dx (putF "leads" (.ref D) [("own_width", .int (n : Int)), ("normal_rows", .ref b)])) = H6 at hx6 hl6 hb6 s6
      -- identity
      have hb6b := hb6
      obtain ⟨vs, evs, hvs⟩ := hb6b
      refine ⟨_, rfl, _, rfl, x, C, dx, _, _, rfl, hx6, Tf.cl, Tf.normal_rows, rfl, b, vs, rfl, .inl ⟨.of evs, fun it nit => ?_⟩⟩
      refine ⟨by show 2 ≤ sizeLine; omega, fun id nid => ?_⟩
      have t7 : Same H6 (upd (upd H6 it (.tup vs)) id (.tup [.int (n : Int), .ref it])) := (same_new nit).trans (same_new nid)
      have hit7 : upd (upd H6 it (.tup vs)) id (.tup [.int (n : Int), .ref it]) it = some (.tup vs) := same_new nid _ _ upd_same
      have hid7 : upd (upd H6 it (.tup vs)) id (.tup [.int (n : Int), .ref it]) id = some (.tup [.int (n : Int), .ref it]) := upd_same
      generalize upd (upd H6 it (.tup vs)) id (.tup [.int (n : Int), .ref it]) = H7 at t7 hit7 hid7
      have hx7 := t7 _ _ hx6
      refine ⟨_, rfl, x, C, dx, _, rfl, hx7, Tf.cl, Tf.identity, by simp, ?_⟩
      have hx8 : upd H7 x (.ins C dx (putF "identity" (.ref id) [("own_width", .int (n : Int)), ("normal_rows", .ref b), ("leads", .ref D)])) x = some (.ins C dx [("own_width", .int (n : Int)), ("normal_rows", .ref b), ("leads", .ref D), ("identity", .ref id)]) := upd_same
      have t8 : SameX x H7 _ := sameX_upd (o := .ins C dx (putF "identity" (.ref id) [("own_width", .int (n : Int)), ("normal_rows", .ref b), ("leads", .ref D)]))
      have hl8 := (hl6.same t7).sameX t8 hx7
      have hb8 := (hb6.same t7).sameX t8 hx7
      have hit8 := t8.tups hx7 _ _ hit7
      have hid8 := t8.tups hx7 _ _ hid7
      have hvs8 := ecP.allKeep (STup.trans (Same.tups t7) (t8.tups hx7)) hvs
      have s8 := (s6.trans (Same.x t7)).trans t8
      generalize upd H7 x (.ins C dx (putF "identity" (.ref id) [("own_width", .int (n : Int)), ("normal_rows", .ref b), ("leads", .ref D)])) = H8 at hx8 hl8 hb8 hit8 hid8 hvs8 s8
      -- own_size
      refine ⟨_, rfl, _, rfl, x, C, dx, _, _, rfl, hx8, Tf.cl, Tf.normal_rows, rfl, n, b, NR, rfl, hb8, hN1, fun r hr => (hNl r hr).1, hn1, fun H9 sz sm9 => ?_⟩
      have hx9 := sm9 _ _ hx8
      refine ⟨_, rfl, x, C, dx, _, rfl, hx9, Tf.cl, Tf.own_size, by simp, ?_⟩
      have t10 : SameX x H9 _ := sameX_upd (o := .ins C dx (putF "own_size" sz [("own_width", .int (n : Int)), ("normal_rows", .ref b), ("leads", .ref D), ("identity", .ref id)]))
      refine q _ ((s8.trans (Same.x sm9)).trans t10) ⟨dx, b, D, id, it, sz, upd_same, (hb8.same sm9).sameX t10 hx9, (hl8.same sm9).sameX t10 hx9, t10.tups hx9 _ _ (sm9 _ _ hid8), vs, t10.tups hx9 _ _ (sm9 _ _ hit8), ecP.allKeep (STup.trans (Same.tups sm9) (t10.tups hx9)) hvs8⟩
    · obtain ⟨vr, er, hal⟩ := hL
      refine ⟨_, rfl, r, vr, rfl, .inl ⟨.of er, ?_⟩⟩
      refine for_it walk_enum (fun i σ H1 => ∃ y3 y4, σ = [some (.ref x), some (.int (n : Int)), some (.ref r), y3, y4] ∧ Same H H1) ⟨_, _, rfl, Same.refl _⟩ (fun i σ H1 _ ⟨_, _, _, sm⟩ => .of (sm _ _ er)) (fun i x σ H1 H' hi pv y => ?_) (fun σ H1 pv => ?_)
      · obtain ⟨y3, y4, rfl, sm⟩ := pv
        obtain ⟨T, x1, x2, rfl, nT, rfl, e1, e2⟩ := y
        have hi' : i < R.length := by rw [← hal.length]; exact hi
        obtain ⟨ra, rfl, hra⟩ := LsE.walk hal (Same.tups (sm.trans (same_new (o := .tup [x1, x2]) nT))) e2 (b := R[i]) (by simp [hi'])
        have hlc := hRl R[i] (List.getElem_mem hi')
        refine ⟨T, _, rfl, .of upd_same, rfl, _, _, rfl, _, _, rfl, rfl, ?_⟩
        refine ⟨_, rfl, _, rfl, ra, R[i], by rw [hlc]; rfl, hra, by omega, fun H2 sm2 => ⟨true, rfl, ?_⟩⟩
        exact ⟨_, _, rfl, sm.trans ((same_new nT).trans sm2)⟩
      obtain ⟨y3, y4, rfl, sm⟩ := pv
      have hlo : ∀ H', Same H H' → SqL K H' r vr ∨ SqT K H' r vr := fun H' s => .inl (.of (s _ _ er))
      have s1 : SameX x H H1 := Same.x sm
      -- own_width
      refine ⟨_, rfl, _, rfl, x, C, dx, _, rfl, sm _ _ hx, Tf.cl, Tf.own_width, by decide, ?_⟩
      have hx2 : upd H1 x (.ins C dx (putF "own_width" (.int (n : Int)) [])) x = some (.ins C dx [("own_width", .int (n : Int))]) := upd_same
      have s2 : SameX x H _ := s1.trans (sameX_upd (o := .ins C dx (putF "own_width" (.int (n : Int)) [])))
      have hlo2 : SqL K (upd H1 x (.ins C dx (putF "own_width" (.int (n : Int)) []))) r vr ∨ SqT K (upd H1 x (.ins C dx (putF "own_width" (.int (n : Int)) []))) r vr := .inl (.of (s2 _ _ (ne_ins hx er fun _ _ _ z => nomatch z) er))
      generalize upd H1 x (.ins C dx (putF "own_width" (.int (n : Int)) [])) = H2 at hx2 s2 hlo2
      -- normal_rows
      refine ⟨_, rfl, _, rfl, r, _, rfl, hlo2, fun l nl => ?_⟩
      have al3 : ecP.all (upd H2 l (.lst vr)) vr R := ecP.allKeep (STup.trans (s2.tups hx) (Same.tups (same_new nl))) hal
      refine ⟨n, l, R, rfl, ⟨_, upd_same, al3⟩, hR1, hR, hn1, hn3, fun H3 b sm3 hb => ?_⟩
      have s3 : SameX x H H3 := s2.trans (Same.x ((same_new nl).trans sm3))
      have hx3 := sm3 _ _ (same_new (o := .lst vr) nl _ _ hx2)
      refine ⟨_, rfl, x, C, dx, _, rfl, hx3, Tf.cl, Tf.normal_rows, by simp, ?_⟩
      have hx4 : upd H3 x (.ins C dx (putF "normal_rows" (.ref b) [("own_width", .int (n : Int))])) x = some (.ins C dx [("own_width", .int (n : Int)), ("normal_rows", .ref b)]) := upd_same
      have t4 : SameX x H3 _ := sameX_upd (o := .ins C dx (putF "normal_rows" (.ref b) [("own_width", .int (n : Int))]))
      have hb4 := hb.sameX t4 hx3
      have s4 := s3.trans t4
      generalize upd H3 x (.ins C dx (putF "normal_rows" (.ref b) [("own_width", .int (n : Int))])) = H4 at hx4 hb4 s4
      have hN1 : (nrmRs R).length ≤ 1 := Nat.le_trans (nrmRs_len _) hR1
      have hNl : ∀ r ∈ nrmRs R, r.length = n ∧ isZ r = false := fun r hr => by
        obtain ⟨h1, c, h2, rfl⟩ := nrmRs_mem hr
        exact ⟨by rw [nrm1_len]; exact (hR c h2).1, h1⟩
      generalize nrmRs R = NR at hb4 q hN1 hNl
      -- leads
      obtain ⟨vb, eb, ab⟩ := hb4
      refine ⟨_, rfl, x, C, dx, _, _, rfl, hx4, Tf.cl, Tf.normal_rows, rfl, b, rfl, ⟨_, .of eb⟩, fun D nD => ?_⟩
      refine lc_gen walk_list ecN NR (fun r => some (leadP r)) nD ab.length.symm (by rw [ab.length]; omega) (fun H5 sm => .of (sm _ _ eb)) (fun i x1 H5 H6 c hc sm y N1 N0 k1 k0 => ?_) (fun H5 sm5 hl5 => ?_)
      · obtain ⟨rfl, e⟩ := y
        obtain ⟨ra, rfl, hra⟩ := LsE.walk ab (Same.tups sm) e hc
        obtain ⟨h1, h2⟩ := hNl c (List.mem_of_getElem? hc)
        exact ⟨rfl, _, rfl, ra, c, rfl, hra, h2, by omega, fun H7 sm7 => k1 _ _ _ rfl rfl sm7⟩
      rw [fm_some] at hl5
      have s5 : SameX x H H5 := s4.trans (Same.x sm5)
      have hx5 := sm5 _ _ hx4
      refine ⟨_, rfl, x, C, dx, _, rfl, hx5, Tf.cl, Tf.leads, by simp, ?_⟩
      have hx6 : upd H5 x (.ins C dx (putF "leads" (.ref D) [("own_width", .int (n : Int)), ("normal_rows", .ref b)])) x = some (.ins C dx [("own_width", .int (n : Int)), ("normal_rows", .ref b), ("leads", .ref D)]) := upd_same
      have t6 : SameX x H5 _ := sameX_upd (o := .ins C dx (putF "leads" (.ref D) [("own_width", .int (n : Int)), ("normal_rows", .ref b)]))
      have hl6 := hl5.sameX t6 hx5
      have hb6 : LsE ecP _ b NR := LsE.sameX ⟨vb, sm5 _ _ eb, ecP.allKeep (Same.tups sm5) ab⟩ t6 hx5
      have s6 := s5.trans t6
      generalize upd H5 x (.ins C dx (putF "leads" (.ref D) [("own_width", .int (n : Int)), ("normal_rows", .ref b)])) = H6 at hx6 hl6 hb6 s6
      -- identity
      have hb6b := hb6
      obtain ⟨vs, evs, hvs⟩ := hb6b
      refine ⟨_, rfl, _, rfl, x, C, dx, _, _, rfl, hx6, Tf.cl, Tf.normal_rows, rfl, b, vs, rfl, .inl ⟨.of evs, fun it nit => ?_⟩⟩
      refine ⟨by show 2 ≤ sizeLine; omega, fun id nid => ?_⟩
      have t7 : Same H6 (upd (upd H6 it (.tup vs)) id (.tup [.int (n : Int), .ref it])) := (same_new nit).trans (same_new nid)
      have hit7 : upd (upd H6 it (.tup vs)) id (.tup [.int (n : Int), .ref it]) it = some (.tup vs) := same_new nid _ _ upd_same
      have hid7 : upd (upd H6 it (.tup vs)) id (.tup [.int (n : Int), .ref it]) id = some (.tup [.int (n : Int), .ref it]) := upd_same
      generalize upd (upd H6 it (.tup vs)) id (.tup [.int (n : Int), .ref it]) = H7 at t7 hit7 hid7
      have hx7 := t7 _ _ hx6
      refine ⟨_, rfl, x, C, dx, _, rfl, hx7, Tf.cl, Tf.identity, by simp, ?_⟩
      have hx8 : upd H7 x (.ins C dx (putF "identity" (.ref id) [("own_width", .int (n : Int)), ("normal_rows", .ref b), ("leads", .ref D)])) x = some (.ins C dx [("own_width", .int (n : Int)), ("normal_rows", .ref b), ("leads", .ref D), ("identity", .ref id)]) := upd_same
      have t8 : SameX x H7 _ := sameX_upd (o := .ins C dx (putF "identity" (.ref id) [("own_width", .int (n : Int)), ("normal_rows", .ref b), ("leads", .ref D)]))
      have hl8 := (hl6.same t7).sameX t8 hx7
      have hb8 := (hb6.same t7).sameX t8 hx7
      have hit8 := t8.tups hx7 _ _ hit7
      have hid8 := t8.tups hx7 _ _ hid7
      have hvs8 := ecP.allKeep (STup.trans (Same.tups t7) (t8.tups hx7)) hvs
      have s8 := (s6.trans (Same.x t7)).trans t8
      generalize upd H7 x (.ins C dx (putF "identity" (.ref id) [("own_width", .int (n : Int)), ("normal_rows", .ref b), ("leads", .ref D)])) = H8 at hx8 hl8 hb8 hit8 hid8 hvs8 s8
      -- own_size
      refine ⟨_, rfl, _, rfl, x, C, dx, _, _, rfl, hx8, Tf.cl, Tf.normal_rows, rfl, n, b, NR, rfl, hb8, hN1, fun r hr => (hNl r hr).1, hn1, fun H9 sz sm9 => ?_⟩
      have hx9 := sm9 _ _ hx8
      refine ⟨_, rfl, x, C, dx, _, rfl, hx9, Tf.cl, Tf.own_size, by simp, ?_⟩
      have t10 : SameX x H9 _ := sameX_upd (o := .ins C dx (putF "own_size" sz [("own_width", .int (n : Int)), ("normal_rows", .ref b), ("leads", .ref D), ("identity", .ref id)]))
      refine q _ ((s8.trans (Same.x sm9)).trans t10) ⟨dx, b, D, id, it, sz, upd_same, (hb8.same sm9).sameX t10 hx9, (hl8.same sm9).sameX t10 hx9, t10.tups hx9 _ _ (sm9 _ _ hid8), vs, t10.tups hx9 _ _ (sm9 _ _ hit8), ecP.allKeep (STup.trans (Same.tups sm9) (t10.tups hx9)) hvs8⟩
end
end K35
/-! text D9 -/
set_option Elab.async false
set_option linter.all false
set_option maxRecDepth 100000
set_option maxHeartbeats 4000000
/-! tables, 3 -/
namespace K35
open PySem PySem.Spec PyProof.Rows L2
section
variable {X : Cx} {k : Nat} {f C : Addr} {fd : FuncData} {ps : List Str} {sp : Sp} {m : Str} {pos apos : Pos} {e o : Expr} {es : List Expr} {ta : TE} {t : TA} {pl : Sem Bool}
theorem pe_mcal (c : Cal X.prog X.w X.K X.mg X.base k ps sp f fd) (cl : Cls X.K C) (hm : Meth X.K C m f) (hr : Room k X.A) (ho : PE X o ta) (ha : PA X (e :: es) t)
    (he : starEach (e :: es) X.env = (false, eval e X.env) :: starEach es X.env := by rfl) (hpl : (backTo pos (starEach es X.env)).any (·.1) = false := by rfl)
    (ht : eval (.Call (.Attribute o m apos) (e :: es) [] pos) X.env = (do
      let ov ← eval o X.env
      standAt apos.atName
      let (f, first) ← holding [ov] (getMethod ov m pl)
      callWith pos f first (backTo pos (starEach (e :: es) X.env)) (backToKw pos (keywordEach [] X.env))) := by rfl) :
    PE X (.Call (.Attribute o m apos) (e :: es) [] pos) (tMeth C m sp [] E0 ta t) := pe_meth (pl := pl) ho cl hm c.F hr c.b .nil pass0 ha he hpl ht
theorem pe_mcal0 (c : Cal X.prog X.w X.K X.mg X.base k ps sp f fd) (cl : Cls X.K C) (hm : Meth X.K C m f) (hr : Room k X.A) (ho : PE X o ta)
    (ht : eval (.Call (.Attribute o m apos) [] [] pos) X.env = (do
      let ov ← eval o X.env
      standAt apos.atName
      let (f, first) ← holding [ov] (getMethod ov m pl)
      callWith pos f first (backTo pos (starEach [] X.env)) (backToKw pos (keywordEach [] X.env))) := by rfl) :
    PE X (.Call (.Attribute o m apos) [] [] pos) (tMeth C m sp [] E0 ta tNil) := pe_meth0 (pl := pl) ho cl hm c.F hr c.b .nil pass0 ht
theorem pe_pcal {p : Addr} (c : Cal X.prog X.w X.K X.mg X.base k ps sp f fd) (cl : Cls X.K C) (hp : PropOf X.K C m p f) (hr : Room (k + 1) X.A) (he : PE X e ta) (hab : attributeBase e m X.env (eval e X.env) = eval e X.env := by rfl) : PE X (.Attribute e m pos) (tProp C sp [] E0 ta) :=
  pe_prop he cl hp c.F hr c.b .nil pass0 hab
end
/-- what stands for normal rows -/
structure RowsOk (n : Nat) (R : List Place) : Prop where
  one : R.length ≤ 1
  row : ∀ r ∈ R, r.length = n ∧ isZ r = false ∧ Bp r
  pos : 1 ≤ n
  le : n ≤ 3
theorem subP_len (p q : Place) (h : p.length = q.length) : (subP p q).length = p.length := by simp [subP, h]
theorem addP_len (p q : Place) (h : p.length = q.length) : (addP p q).length = p.length := by simp [addP, h]
theorem red1_len {p r : Place} (h : p.length = r.length) : (red1 p r).length = p.length := by
  unfold red1
  exact subP_len _ _ (by rw [mulP_len]; exact h)
theorem redR_len {n : Nat} {R : List Place} (hR : RowsOk n R) {p : Place} (h : p.length = n) : (redR R p).length = n := by
  unfold redR
  rcases one_cases hR.one with rfl | ⟨r, rfl⟩
  · exact h
  · have := (hR.row r (List.mem_singleton.mpr rfl)).1
    show (red1 p r).length = n
    rw [red1_len (by omega)]
    exact h
section
variable {P : Program} {w : World} {K : PySem.W.Frag} {mg : Str → Option Value} {base : Heap} {f C : Addr} {fd : FuncData}
/-! width -/
abbrev s_twidth : Stmt := inClass (top 24) 1
theorem sc_twidth : FnScope ["self"] ["self"] (defScope s_twidth) := ⟨rfl, rfl, rfl, by decide +kernel, rfl, by decide +kernel, by decide +kernel⟩
theorem c_twidth (F : FnP K "width" "Table.width" s_twidth f fd) (T : TabF K C) : Cal P w K mg base 1 ["self"] (getSp C "own_width") f fd := by
  refine F.cal (F.ok sc_twidth (fun vs H Q E h => ?_) (fun cdv A outer s H vs Q E hr h => ?_)) (fun _ _ _ _ _ _ us hl => match us, hl with | [_], _ => rfl)
  · obtain ⟨a, dx, fs, v, rfl, _⟩ := h
    rfl
  · obtain ⟨a, dx, fs, v, rfl, ha, hl, q⟩ := h
    exact ⟨_, PSs.nox (pss_one (ps_ret (pe_fld (pv 0) rfl))), _, rfl, a, C, dx, fs, v, rfl, ha, T.cl, T.own_width, hl, q⟩
/-! rows -/
abbrev s_trows : Stmt := inClass (top 24) 3
theorem sc_trows : FnScope ["self"] ["self"] (defScope s_trows) := ⟨rfl, rfl, rfl, by decide +kernel, rfl, by decide +kernel, by decide +kernel⟩
def sp_trows (C : Addr) : Sp := fun vs H Q _ => ∃ (a : Addr) (n : Nat) (R : List Place), vs = [.ref a] ∧ TabAt C H a n R ∧ ∀ H' b, Same H H' → LsE ecP H' b R → Q (.ref b) H'
theorem c_trows (F : FnP K "rows" "Table.rows" s_trows f fd) (B : Fre mg) (T : TabF K C) : Cal P w K mg base 1 ["self"] (sp_trows C) f fd := by
  refine F.cal (F.ok sc_trows (fun vs H Q E h => ?_) (fun cdv A outer s H vs Q E hr h => ?_)) (fun _ _ _ _ _ _ us hl => match us, hl with | [_], _ => rfl)
  · obtain ⟨a, n, R, rfl, _⟩ := h
    rfl
  · obtain ⟨a, n, R, rfl, ⟨dx, nr, ld, id, it, sz, h1, ⟨vr, e1, a1⟩, h3, h4, h5⟩, q⟩ := h
    refine ⟨_, PSs.nox (pss_one (ps_ret (pe_callTy call_list_of (by rfl) B.list (by decide +kernel) (pa_cons (pe_fld (pv 0) rfl) pa_nil)))), ?_⟩
    refine ⟨_, rfl, a, C, dx, _, _, rfl, h1, T.cl, T.normal_rows, rfl, nr, vr, rfl, .inl (.of e1), fun l nl => ?_⟩
    exact q _ l (same_new nl) ⟨vr, upd_same, ecP.allKeep (Same.tups (same_new nl)) a1⟩
/-! reduced -/
abbrev s_tred : Stmt := inClass (top 24) 4
theorem sc_tred : FnScope ["self", "counts", "at", "row"] ["self", "counts"] (defScope s_tred) := ⟨rfl, rfl, rfl, by decide +kernel, rfl, by decide +kernel, by decide +kernel⟩
def sp_tred (C : Addr) : Sp := fun vs H Q _ => ∃ (a b : Addr) (n : Nat) (R : List Place) (p : Place), vs = [.ref a, .ref b] ∧ TabAt C H a n R ∧ RowsOk n R ∧ IT H b p ∧ p.length = n ∧ (R ≠ [] → Bp p) ∧ ∀ H' c, Same H H' → IT H' c (redR R p) → Q (.ref c) H'
theorem c_tred {fM fS : Addr} {fdM fdS : FuncData} (F : FnP K "reduced" "Table.reduced" s_tred f fd) (B : Fre mg) (T : TabF K C) (cM : Cal P w K mg base 1 ["one", "other"] (sp_zip fun x y => x - y) fM fdM) (gM : mg "minus" = some (.ref fM)) (cS : Cal P w K mg base 1 ["one", "times"] sp_scaled fS fdS) (gS : mg "scaled" = some (.ref fS)) :
    Cal P w K mg base 2 ["self", "counts"] (sp_tred C) f fd := by
  refine F.cal (F.ok sc_tred (fun vs H Q E h => ?_) (fun cdv A outer s H vs Q E hr h => ?_)) (fun _ _ _ _ _ _ us hl => match us, hl with | [_, _], _ => rfl)
  · obtain ⟨a, b, n, R, p, rfl, _⟩ := h
    rfl
  · obtain ⟨a, b, n, R, p, rfl, ⟨dx, nr, ld, id, it, sz, h1, ⟨vr, e1, a1⟩, ⟨vl, e2, a2⟩, h4, h5⟩, hR, hb, hp, hB, q⟩ := h
    have nd := sc_tred.nd
    refine ⟨_, PSs.nox (pss_cons (ps_for PassesOwn.never rfl (RZ.pi_zipA rfl B.zip (pa_cons (pe_fld (pv 0) rfl) (pa_cons (pe_fld (pv 0) rfl) pa_nil))) (pg_tup rfl (pgs_cons (pg_name (i := 2) nd rfl (.inl rfl)) (pgs_cons (pg_name (i := 3) nd rfl (.inl rfl)) pgs_nil))) (pss_one (ps_set (i := 1) nd rfl (.inl rfl) (pe_cal cM hr rfl gM (pa_cons (pv 1) (pa_cons (pe_cal cS hr rfl gS (pa_cons (pv 3) (pa_cons (pe_op op_fdivN (pe_ix ix_tup (pv 1) (pv 2) (fun _ _ => rfl)) (pe_ix ix_tup (pv 3) (pv 2) (fun _ _ => rfl))) pa_nil))) pa_nil)))))) (pss_one (ps_ret (pv 1)))), ?_⟩
    have hvl : vl.length = vr.length := by rw [a1.length, a2.length, List.length_map]
    refine ⟨_, rfl, a, C, dx, _, _, rfl, h1, T.cl, T.leads, rfl, _, rfl, a, C, dx, _, _, rfl, h1, T.cl, T.normal_rows, rfl, ld, nr, vl, vr, rfl, .inl ⟨.of e2, .of e1, ?_⟩⟩
    have h3 : (3 : Nat) ≤ sizeLine := by decide
    refine for_it (walk_zip (n := vl.length) (by omega)) (fun i σ H1 => ∃ c y2 y3, σ = [some (.ref a), some (.ref c), y2, y3] ∧ Same H H1 ∧ IT H1 c (redR (R.take i) p)) ⟨b, _, _, rfl, Same.refl _, hb⟩ (fun i σ H1 _ ⟨_, _, _, _, sm, _⟩ => ⟨.of (sm _ _ e2), .of (sm _ _ e1)⟩) (fun i x σ H1 H' hi pv y => ?_) (fun σ H1 pv => ?_)
    · obtain ⟨c, y2, y3, rfl, sm, hc⟩ := pv
      obtain ⟨T1, x1, x2, rfl, nT, rfl, g1, g2⟩ := y
      have hRl := hR.one
      have hi0 : i = 0 := by have := a1.length; omega
      subst hi0
      obtain ⟨r, rfl⟩ : ∃ r, R = [r] := by
        rcases one_cases hR.one with rfl | q
        · have := a1.length; simp at this; subst this; simp at hvl; subst hvl; simp at hi
        · exact q
      obtain ⟨l1, l2, l3⟩ := hR.row r (List.mem_singleton.mpr rfl)
      have hx1 := LsE.walk a2 (STup.refl H) g1 (b := leadP r) rfl
      have hx1 : x1 = .int (leadP r : Int) := hx1
      subst hx1
      obtain ⟨ra, rfl, hra⟩ := LsE.walk a1 (Same.tups (sm.trans (same_new (o := .tup [.int (leadP r : Int), x2]) nT))) g2 (b := r) rfl
      have hbp := hB (by simp)
      have hB1 := hbp.at_ (leadP r)
      have hB2 := l3.at_ (leadP r)
      have hn := hR.le
      have hll := lead_lt l2
      have hlne := lead_ne l2
      have smT : Same H1 (upd H1 T1 (.tup [.int (leadP r : Int), .ref ra])) := same_new nT
      have hc' : IT _ c p := smT _ _ hc
      have hq : (Int.fdiv (p.getD (leadP r) 0) (r.getD (leadP r) 0)).natAbs ≤ (p.getD (leadP r) 0).natAbs := Int.natAbs_fdiv_le_natAbs _ _
      refine ⟨T1, _, rfl, .of upd_same, rfl, _, _, rfl, _, _, rfl, rfl, ?_⟩
      refine ⟨_, rfl, _, rfl, _, rfl, _, rfl, c, _, _, _, rfl, rfl, .of hc', atI_nat (int_at (by omega)), _, rfl, _, rfl, ra, _, _, _, rfl, rfl, .of hra, atI_nat (int_at hll), _, _, rfl, rfl, ⟨hlne, by omega⟩, ra, r, _, rfl, hra, by omega, by omega, by omega, fun H2 d sm2 hd => ?_⟩
      refine ⟨c, d, p, _, rfl, sm2 _ _ hc', hd, by omega, fun H3 e sm3 he => ?_⟩
      exact ⟨e, _, _, rfl, sm.trans (smT.trans (sm2.trans sm3)), he⟩
    · obtain ⟨c, y2, y3, rfl, sm, hc⟩ := pv
      have e : R.take vl.length = R := List.take_of_length_le (by rw [hvl, a1.length]; exact Nat.le_refl _)
      rw [e] at hc
      exact ⟨_, rfl, q _ _ sm hc⟩
/-! place -/
abbrev s_tplace : Stmt := inClass (top 24) 5
theorem sc_tplace : FnScope ["self", "counts"] ["self", "counts"] (defScope s_tplace) := ⟨rfl, rfl, rfl, by decide +kernel, rfl, by decide +kernel, by decide +kernel⟩
theorem c_tplace {fM fS : Addr} {fdM fdS : FuncData} (F : FnP K "place" "Table.place" s_tplace f fd) (T : TabF K C) (cM : Cal P w K mg base 3 ["value", "width"] sp_check_counts fM fdM) (gM : mg "check_counts" = some (.ref fM)) (cS : Cal P w K mg base 2 ["self", "counts"] (sp_tred C) fS fdS) (mS : Meth K C "reduced" fS) :
    Cal P w K mg base 4 ["self", "counts"] (sp_tred C) f fd := by
  refine F.cal (F.ok sc_tplace (fun vs H Q E h => ?_) (fun cdv A outer s H vs Q E hr h => ?_)) (fun _ _ _ _ _ _ us hl => match us, hl with | [_, _], _ => rfl)
  · obtain ⟨a, b, n, R, p, rfl, _⟩ := h
    rfl
  · obtain ⟨a, b, n, R, p, rfl, hT, hR, hb, hp, hB, q⟩ := h
    have nd := sc_tplace.nd
    refine ⟨_, PSs.nox (pss_cons (ps_expr (pe_cal cM hr rfl gM (pa_cons (pv 1) (pa_cons (pe_fld (pv 0) rfl) pa_nil)))) (pss_one (ps_ret (pe_mcal cS T.cl mS (hr.mono (by decide)) (pv 0) (pa_cons (pv 1) pa_nil))))), ?_⟩
    have hT2 := hT
    obtain ⟨dx, nr, ld, id, it, sz, h1, _⟩ := hT
    have hn := hR.le
    refine ⟨_, rfl, _, rfl, a, C, dx, _, _, rfl, h1, T.cl, T.own_width, rfl, b, p, by rw [hp]; rfl, hb, by omega, fun H1 sm => ?_⟩
    refine ⟨_, rfl, a, dx, _, rfl, sm _ _ h1, rfl, _, rfl, a, b, n, R, p, rfl, hT2.same sm, hR, sm _ _ hb, hp, hB, fun H2 c sm2 hc => q _ _ (sm.trans sm2) hc⟩
/-! == -/
abbrev s_teq : Stmt := inClass (top 24) 11
theorem sc_teq : FnScope ["self", "other"] ["self", "other"] (defScope s_teq) := ⟨rfl, rfl, rfl, by decide +kernel, rfl, by decide +kernel, by decide +kernel⟩
def sp_teq (C : Addr) : Sp := fun vs H Q _ => ∃ (a b : Addr) (n m : Nat) (R S : List Place), vs = [.ref a, .ref b] ∧ TabAt C H a n R ∧ TabAt C H b m S ∧ Q (.bl (decide (n = m ∧ R = S))) H
def tabD (n : Nat) (R : List Place) : PyData := .tuple [.int n, .tuple (R.map ecP.dat)]
theorem eqv_places : ∀ R S : List Place, PyData.eqvAll (R.map ecP.dat) (S.map ecP.dat) = decide (R = S)
  | [], [] => by simp [PyData.eqvAll]
  | [], _ :: _ => by simp [PyData.eqvAll]
  | _ :: _, [] => by simp [PyData.eqvAll]
  | r :: R, s :: S => by
    rw [List.map_cons, List.map_cons, PyData.eqvAll, eqv_places R S]
    have e : PyData.eqv (ecP.dat r) (ecP.dat s) = decide (r = s) := by
      show PyData.eqv (.tuple (r.map .int)) (.tuple (s.map .int)) = _
      rw [PyData.eqv, eqv_ints]
    rw [e]
    by_cases h : r = s <;> by_cases h2 : R = S <;> simp [h, h2]
theorem eqv_tabD (n m : Nat) (R S : List Place) : PyData.eqv (tabD n R) (tabD m S) = decide (n = m ∧ R = S) := by
  unfold tabD
  rw [PyData.eqv, PyData.eqvAll, PyData.eqvAll, PyData.eqvAll, PyData.eqv, PyData.eqv, eqv_places]
  by_cases h : n = m
  · by_cases h2 : R = S <;> simp [h, h2]
  · have : ¬ ((n : Int) = (m : Int)) := by omega
    simp [h, this]
theorem can_tabD (n : Nat) (R : List Place) : (tabD n R).canLay0 = true ∧ (tabD n R).depth ≤ 3 := by
  have h1 := canAll (R.map ecP.dat) fun d hd => by
    obtain ⟨x, _, rfl⟩ := List.mem_map.mp hd
    exact can_P x
  have h2 := depAll 1 (R.map ecP.dat) fun d hd => by
    obtain ⟨x, _, rfl⟩ := List.mem_map.mp hd
    exact dep_P x
  unfold tabD
  constructor
  · simp only [PyData.canLay0, PyData.canLayAll0, h1]
    rfl
  · simp only [PyData.depth, PyData.depthAll]
    omega
theorem shp_tabD (n : Nat) (R : List Place) : SeqAt.shaped (tabD n R) = true := by
  obtain ⟨h1, h2⟩ := can_tabD n R
  unfold SeqAt.shaped
  rw [h1, decide_eq_true (by omega)]
  rfl
theorem dp_tabD {H : Hp} {id it : Addr} {n : Nat} {R : List Place} {vs : List V} (h1 : H id = some (.tup [.int (n : Int), .ref it])) (h2 : H it = some (.tup vs)) (h3 : ecP.all H vs R) : Dp K H (.ref id) (tabD n R) :=
  .tup (.of h1) (.cons (.int _) (.cons (.tup (.of h2) (ecP.dpAll h3)) .nil))
theorem c_teq (F : FnP K "__eq__" "Table.__eq__" s_teq f fd) (B : Fre mg) (T : TabF K C) (I : C8.InsC K C) (gT : mg "Table" = some (.ref C)) : Cal P w K mg base 1 ["self", "other"] (sp_teq C) f fd := by
  refine F.cal (F.ok sc_teq (fun vs H Q E h => ?_) (fun cdv A outer s H vs Q E hr h => ?_)) (fun _ _ _ _ _ _ us hl => match us, hl with | [_, _], _ => rfl)
  · obtain ⟨a, b, n, m, R, S, rfl, _⟩ := h
    rfl
  · obtain ⟨a, b, n, m, R, S, rfl, ⟨dx, nr, ld, id, it, sz, h1, _, _, h4, vs, h5, h6⟩, ⟨dx', nr', ld', id', it', sz', g1, _, _, g4, vs', g5, g6⟩, q⟩ := h
    have nd := sc_teq.nd
    refine ⟨_, PSs.nox (pss_one (ps_ret (pe_and (pe_callB (C8.call_isC I) (by rfl) B.isinstance (by decide +kernel) (pa_cons (pv 1) (pa_cons (pe_glob (v := .ref C) rfl gT rfl) pa_nil))) (pe_one (pe_cmpR (op_eqD hr.units) (pe_fld (pv 0) rfl) (pe_fld (pv 1) rfl) (nomark _)))))), ?_⟩
    refine ⟨_, rfl, b, dx', _, rfl, g1, true, rfl, iteT ?_⟩
    refine ⟨_, rfl, a, C, dx, _, _, rfl, h1, T.cl, T.identity, rfl, _, rfl, b, C, dx', _, _, rfl, g1, T.cl, T.identity, rfl, ?_⟩
    refine ⟨_, _, dp_tabD h4 h5 h6, dp_tabD g4 g5 g6, shp_tabD _ _, shp_tabD _ _, ?_⟩
    rw [eqv_tabD]
    exact q
end
end K35
/-! text D10 -/
set_option Elab.async false
set_option linter.all false
set_option maxRecDepth 100000
set_option maxHeartbeats 4000000
/-! walks -/
namespace K35
open PySem PySem.Spec PyProof.Rows L2
structure WalF (K : PySem.W.Frag) (C : Addr) : Prop where
  cl : Cls K C
  own_table : NoAttr K C "own_table"
  known : NoAttr K C "known"
  identity : NoAttr K C "identity"
/-- at a stands a walk over the table at ta -/
def WkAt (P : Program) (w : World) (CT C : Addr) (H : Hp) (a ta : Addr) (n : Nat) (R : List Place) (es : WE) : Prop := ∃ dx kd id ti ts it vs ws, H a = some (.ins C dx [("own_table", .ref ta), ("known", .ref kd), ("identity", .ref id)]) ∧
  TabAt CT H ta n R ∧ FN P w kcS H kd es ∧ H id = some (.tup [.ref ti, .ref ts]) ∧ H ti = some (.tup [.int (n : Int), .ref it]) ∧ H it = some (.tup vs) ∧ ecP.all H vs R ∧ H ts = some (.tup ws) ∧ ecS.all H ws (stS es)
theorem WkAt.same {P : Program} {w : World} {CT C : Addr} {H H' : Hp} {a ta : Addr} {n : Nat} {R : List Place} {es : WE} (h : WkAt P w CT C H a ta n R es) (s : Same H H') : WkAt P w CT C H' a ta n R es := by
  obtain ⟨dx, kd, id, ti, ts, it, vs, ws, h1, h2, h3, h4, h5, h6, h7, h8, h9⟩ := h
  exact ⟨dx, kd, id, ti, ts, it, vs, ws, s _ _ h1, h2.same s, h3.same s, s _ _ h4, s _ _ h5, s _ _ h6, ecP.allKeep (Same.tups s) h7, s _ _ h8, ecS.allKeep (Same.tups s) h9⟩
theorem DN.stx {P : Program} {w : World} {H H' : Hp} {d : Addr} {κ : Type} {c : KC κ} {es : List (κ × Int)} (h : DN P w c H d es) (s : SameX d H H') : STup H H' := by
  obtain ⟨kvs, e, _⟩ := h
  intro b xs q
  refine s b _ ?_ q
  rintro rfl
  rw [e] at q
  cases q
theorem DN.ne {P : Program} {w : World} {H : Hp} {d x C dx : Addr} {κ : Type} {c : KC κ} {es : List (κ × Int)} {fs : List (Str × V)} (h : DN P w c H d es) (hx : H x = some (.ins C dx fs)) : d ≠ x := by
  obtain ⟨kvs, e, _⟩ := h
  exact ne_ins hx e fun _ _ _ z => nomatch z
theorem DN.lst {P : Program} {w : World} {H : Hp} {d a : Addr} {κ : Type} {c : KC κ} {es : List (κ × Int)} {xs : List V} (h : DN P w c H d es) (ha : H a = some (.lst xs)) : a ≠ d := by
  obtain ⟨kvs, e, _⟩ := h
  rintro rfl
  rw [e] at ha
  cases ha
theorem LsE.stx {P : Program} {w : World} {H H' : Hp} {d a : Addr} {κ α : Type} {c : KC κ} {es : List (κ × Int)} {E : EC α} {l : List α} (g : LsE E H a l) (h : DN P w c H d es) (s : SameX d H H') : LsE E H' a l := by
  obtain ⟨vs, e, q⟩ := g
  exact ⟨vs, s _ _ (h.lst e) e, E.allKeep (h.stx s) q⟩
theorem TabAt.stx {P : Program} {w : World} {H H' : Hp} {d a C : Addr} {κ : Type} {c : KC κ} {es : List (κ × Int)} {n : Nat} {R : List Place} (g : TabAt C H a n R) (h : DN P w c H d es) (s : SameX d H H') : TabAt C H' a n R := by
  obtain ⟨dx, nr, ld, id, it, sz, h1, h2, h3, h4, vs, h5, h6⟩ := g
  exact ⟨dx, nr, ld, id, it, sz, s _ _ (Ne.symm (h.ne h1)) h1, h2.stx h s, h3.stx h s, h.stx s _ _ h4, vs, h.stx s _ _ h5, ecP.allKeep (h.stx s) h6⟩
section
variable {P : Program} {w : World} {K : PySem.W.Frag} {mg : Str → Option Value} {base : Heap} {f C CT : Addr} {fd : FuncData}
/-! add -/
abbrev s_wadd : Stmt := inClass (top 36) 1
theorem sc_wadd : FnScope ["self", "street", "number", "total"] ["self", "street", "number"] (defScope s_wadd) := ⟨rfl, rfl, rfl, by decide +kernel, rfl, by decide +kernel, by decide +kernel⟩
def sp_wadd (P : Program) (w : World) (C : Addr) : Sp := fun vs H Q _ => ∃ (x k dx kd : Addr) (fs : List (Str × V)) (key : Place × Nat) (d : Int) (es : WE), vs = [.ref x, .ref k, .int d] ∧ H x = some (.ins C dx fs) ∧ fs.lookup ("known" : Str) = some (V.ref kd) ∧ DN P w kcS H kd es ∧ kcS.at_ H k key ∧ es.length < sizeLine ∧
  ∀ H', SameX kd H H' → DN P w kcS H' kd (addW es key d) → Q .non H'
theorem c_wadd (F : FnP K "add" "Walk.add" s_wadd f fd) (T : WalF K C) : Cal P w K mg base 1 ["self", "street", "number"] (sp_wadd P w C) f fd := by
  refine F.cal (F.ok sc_wadd (fun vs H Q E h => ?_) (fun cdv A outer s H vs Q E hr h => ?_)) (fun _ _ _ _ _ _ us hl => match us, hl with | [_, _, _], _ => rfl)
  · obtain ⟨x, k, dx, kd, fs, key, d, es, rfl, _⟩ := h
    rfl
  · obtain ⟨x, k, dx, kd, fs, key, d, es, rfl, hx, hf, hd, hk, hl, q⟩ := h
    have nd := sc_wadd.nd
    refine ⟨_, PSs.nox (pss_cons (ps_set (i := 3) nd rfl (.inl rfl) (pe_op op_add (pe_nget2 (c := kcS) hr.units (pe_fld (pv 0) rfl) (pv 1) pe_int ⟨rfl, rfl, rfl, rfl⟩) (pv 2))) (pss_one (ps_if (pt_cmpR op_ne (pv 3) pe_int (nomark _)) (pss_one (ps_nput (c := kcS) hr.units (pe_fld (pv 0) rfl) (pv 1) (pv 3) rfl)) (pss_one (ps_if (pt_cmp (pc_nin (c := kcS) hr.units (pv 1) (pe_fld (pv 0) rfl))) (pss_one (ps_ndel (c := kcS) hr.units (pe_fld (pv 0) rfl) (pv 1))) pss_nil))))), ?_⟩
    refine ⟨_, rfl, x, C, dx, fs, _, rfl, hx, T.cl, T.known, hf, kd, rfl, ⟨es, hd.rd⟩, _, rfl, k, key, es, 0, rfl, hk, hd.rd, rfl, _, rfl, _, _, rfl, rfl, ?_⟩
    refine ⟨_, rfl, rfl, _, rfl, ?_⟩
    unfold addW at q
    by_cases h0 : (getE es key).getD 0 + d = 0
    · refine iteN (neZ_no h0) ?_
      rw [if_neg (by simpa using h0)] at q
      refine ⟨_, rfl, _, rfl, x, C, dx, fs, _, rfl, hx, T.cl, T.known, hf, kd, k, key, es, rfl, rfl, hk, hd.rd, _, rfl, ?_⟩
      cases hs : (getE es key).isSome with
      | true =>
        rw [hs, if_pos rfl] at q
        refine iteT ⟨_, rfl, x, C, dx, fs, _, rfl, hx, T.cl, T.known, hf, _, rfl, kd, k, key, es, rfl, rfl, hk, hd, hs, fun o hd2 => q _ sameX_upd hd2⟩
      | false =>
        rw [hs, if_neg (by decide)] at q
        exact iteF (q _ (SameX.refl _ _) hd)
    · refine iteY (neZ_yes h0) ?_
      rw [if_pos (by simpa using h0)] at q
      exact ⟨_, rfl, _, rfl, x, C, dx, fs, _, rfl, hx, T.cl, T.known, hf, _, rfl, kd, k, key, es, _, rfl, rfl, rfl, hk, hd, hl, fun o hd2 => q _ sameX_upd hd2⟩
/-! streets -/
abbrev s_wstr : Stmt := inClass (top 36) 4
theorem sc_wstr : FnScope ["self", "street", "number"] ["self"] (defScope s_wstr) := ⟨rfl, rfl, rfl, by decide +kernel, rfl, by decide +kernel, by decide +kernel⟩
def sp_wstr (P : Program) (w : World) (C : Addr) : Sp := fun vs H Q _ => ∃ (x dx kd : Addr) (fs : List (Str × V)) (es : WE), vs = [.ref x] ∧ H x = some (.ins C dx fs) ∧ fs.lookup ("known" : Str) = some (V.ref kd) ∧ FN P w kcS H kd es ∧ es.length ≤ sizeLine ∧
  ∀ H' b, Same H H' → LsE ecS H' b (stS es) → Q (.ref b) H'
theorem alike_ints2 : ∀ p q : Place, PySem.W.alikeAll (p.map .int) (q.map .int) = true := PySem.W.alike_ints
theorem alike_S (b b' : St3) : PySem.W.alike (ecS.dat b) (ecS.dat b') = true := by
  simp only [ecS, PySem.W.alike, PySem.W.alikeAll, alike_ints2]
  rfl
theorem alike_E (b b' : Place × Int) : PySem.W.alike (ecE.dat b) (ecE.dat b') = true := by
  simp only [ecE, PySem.W.alike, PySem.W.alikeAll, alike_ints2]
  rfl
theorem c_wstr (F : FnP K "streets" "Walk.streets" s_wstr f fd) (B : Fre mg) (T : WalF K C) : Cal P w K mg base 1 ["self"] (sp_wstr P w C) f fd := by
  refine F.cal (F.ok sc_wstr (fun vs H Q E h => ?_) (fun cdv A outer s H vs Q E hr h => ?_)) (fun _ _ _ _ _ _ us hl => match us, hl with | [_], _ => rfl)
  · obtain ⟨x, dx, kd, fs, es, rfl, _⟩ := h
    rfl
  · obtain ⟨x, dx, kd, fs, es, rfl, hx, hf, hd, hl, q⟩ := h
    have nd := sc_wstr.nd
    refine ⟨_, PSs.nox (pss_one (ps_ret (pe_callB (call_sortedE ecS alike_S (fun b => ⟨_, _, rfl⟩) (fun b => Nat.le_trans (dep_S b) (by decide)) hr.units) (by rfl) B.sorted (by decide +kernel) (pa_cons (pe_lc (own := [("street", 1), ("number", 2)]) (g := (gTup K 2 (gCons (gName 1) (gCons (gName 2) gNil)))) (tt := tYes) (te := tTup (StX.tStar K (tVar 1) (tCons (tVar 2) tNil))) rfl nd (pi_nitems (c := kcS) (pe_fld (pv 0) rfl)) (blkOk_by (N := ["self", "street", "number"]) (sc := defScope s_wstr) (by decide +kernel)) (fun _ _ _ _ _ => (pg_tup rfl (pgs_cons (pg_name (i := 1) nd rfl (.inl rfl)) (pgs_cons (pg_name (i := 2) nd rfl (.inl rfl)) pgs_nil)))) (fun _ _ _ _ _ => pts_nil) (fun _ _ _ _ _ => (pe_tup (StX.pa_star (pv 1) (pa_cons (pv 2) pa_nil))))) pa_nil)))), ?_⟩
    obtain ⟨od, hd⟩ := hd.o
    refine ⟨_, rfl, x, C, dx, fs, _, rfl, hx, T.cl, T.known, hf, kd, od, es, rfl, hd, fun D nD => ?_⟩
    refine lc_gen walk_nitems ecS es (fun e => some (ofE e)) nD rfl hl (fun H1 sm => hd.same sm) (fun i y H1 H' e he sm y N1 N0 k1 k0 => ?_) (fun H1 sm h1 => ?_)
    · obtain ⟨T1, k, n, a, h1, rfl, nT, rfl, hk⟩ := y
      obtain rfl : e = (k, n) := Option.some.inj (he.symm.trans h1)
      obtain ⟨qa, hk1, hk2⟩ := hk
      have sT : Same H1 (upd H1 T1 (.tup [.ref a, .int n])) := same_new nT
      refine ⟨T1, _, rfl, .of upd_same, rfl, _, _, rfl, _, _, rfl, rfl, rfl, _, rfl, a, _, rfl, .inl (.of (sT _ _ hk2)), _, rfl, by show 3 ≤ sizeLine; decide, fun t nt => ?_⟩
      have sT2 := sT.trans (same_new (o := .tup [.ref qa, .int (k.2 : Int), .int n]) nt)
      exact k1 _ _ _ rfl ⟨t, qa, rfl, sT2 _ _ hk1, upd_same⟩ sT2
    · rw [fm_some] at h1
      refine ⟨D, _, rfl, h1, by rw [List.length_map]; exact hl, fun p o np hp => ?_⟩
      have e := isort_eq sLe_anti sLe_total (es.map ofE)
      refine q _ p (sm.trans (same_new np)) ?_
      rw [stS, e]
      exact hp
end
end K35
/-! text D11 -/
set_option Elab.async false
set_option linter.all false
set_option maxRecDepth 100000
set_option maxHeartbeats 4000000
/-! walks, 2 -/
namespace K35
open PySem PySem.Spec PyProof.Rows L2
def SOk (n : Nat) (ss : List St3) : Prop := ∀ s ∈ ss, s.1.length = n ∧ s.2.1 < n
theorem length_addW (es : WE) (k : Place × Nat) (d : Int) : (addW es k d).length ≤ es.length + 1 := by
  unfold addW
  split
  · exact length_putE _ _ _
  · split
    · exact Nat.le_succ_of_le (length_delE _ _)
    · exact Nat.le_succ _
def wStep (R : List Place) (es : WE) (s : St3) : WE := addW es (redR R s.1, s.2.1) s.2.2
theorem mkW_eq (R : List Place) (ss : List St3) : mkW R ss = ss.foldl (wStep R) [] := rfl
theorem length_steps (R : List Place) : ∀ (ss : List St3) (es : WE), (ss.foldl (wStep R) es).length ≤ es.length + ss.length
  | [], es => Nat.le_refl _
  | s :: ss, es => by
    have h1 := length_steps R ss (wStep R es s)
    have h2 := length_addW es (redR R s.1, s.2.1) s.2.2
    rw [List.foldl_cons, List.length_cons]
    unfold wStep at h1 ⊢
    omega
theorem mkW_len (R : List Place) (ss : List St3) : (mkW R ss).length ≤ ss.length := by
  have := length_steps R ss []
  rw [List.length_nil] at this
  rw [mkW_eq]
  omega
theorem take_step (R : List Place) {ss : List St3} {i : Nat} {s : St3} (h : ss[i]? = some s) : (ss.take (i + 1)).foldl (wStep R) [] = wStep R ((ss.take i).foldl (wStep R) []) s := by
  rw [take_snoc h, List.foldl_append]
  rfl
section
variable {P : Program} {w : World} {K : PySem.W.Frag} {mg : Str → Option Value} {base : Heap} {f C CT : Addr} {fd : FuncData}
abbrev s_winit : Stmt := inClass (top 36) 0
theorem sc_winit : FnScope ["self", "table", "streets", "at", "street", "place", "letter", "number"] ["self", "table", "streets"] (defScope s_winit) := ⟨rfl, rfl, rfl, by decide +kernel, rfl, by decide +kernel, by decide +kernel⟩
def sp_winit (P : Program) (w : World) (CT C : Addr) : Sp := fun vs H Q _ => ∃ (x dx ta r : Addr) (n : Nat) (R : List Place) (ss : List St3), vs = [.ref x, .ref ta, .ref r] ∧ TabAt CT H ta n R ∧ RowsOk n R ∧ LsE ecS H r ss ∧ SOk n ss ∧ (R ≠ [] → ∀ s ∈ ss, Bp s.1) ∧ ss.length < sizeLine ∧ H x = some (.ins C dx []) ∧
  ∀ H', SameX x H H' → WkAt P w CT C H' x ta n R (mkW R ss) → Q .non H'
theorem ok_winit {v : V} {fN fC2 fW pW fR fA fS : Addr} {fdN fdC2 fdW fdR fdA fdS : FuncData} (F : FunD K "__init__" "Walk.__init__" (defArgs s_winit) (defBody s_winit) (defScope s_winit) [v] [] f fd) (B : Fre mg) (Tt : TabF K CT) (T : WalF K C)
    (cN : Cal P w K mg base 1 ["value"] sp_is_number fN fdN) (gN : mg "is_number" = some (.ref fN)) (cC : Cal P w K mg base 2 ["value", "width"] sp_is_counts fC2 fdC2) (gC : mg "is_counts" = some (.ref fC2))
    (cW : Cal P w K mg base 1 ["self"] (getSp CT "own_width") fW fdW) (hW : PropOf K CT "width" pW fW) (cR : Cal P w K mg base 2 ["self", "counts"] (sp_tred CT) fR fdR) (mR : Meth K CT "reduced" fR)
    (cA : Cal P w K mg base 1 ["self", "street", "number"] (sp_wadd P w C) fA fdA) (mA : Meth K C "add" fA) (cS : Cal P w K mg base 1 ["self"] (sp_wstr P w C) fS fdS) (mS : Meth K C "streets" fS) :
    FnOk P w K mg base CX0 3 f fd ["self", "table", "streets"] (sp_winit P w CT C) := by
  refine F.ok sc_winit (fun vs H Q E h => ?_) (fun cdv A outer s H vs Q E hr h => ?_)
  · obtain ⟨x, dx, ta, r, n, R, ss, rfl, _⟩ := h
    rfl
  · obtain ⟨x, dx, ta, r, n, R, ss, rfl, hT, hR, hr0, hS, hB, hz, hx, q⟩ := h
    have nd := sc_winit.nd
    refine ⟨_, PSs.nox (pss_cons (ps_for PassesOwn.never rfl (pi_enum rfl B.enumerate (pa_cons (pv 2) pa_nil)) (pg_tup rfl (pgs_cons (pg_name (i := 3) nd rfl (.inl rfl)) (pgs_cons (pg_name (i := 4) nd rfl (.inl rfl)) pgs_nil))) (pss_cons (ps_if (pt_not (pt_val (pe_cal cC hr rfl gC (pa_cons (pe_ix ix_tup (pv 4) pe_int (fun _ _ => rfl)) (pa_cons (pe_pcal cW Tt.cl hW hr (pv 1)) pa_nil))))) (pss_one ps_never) pss_nil) (pss_one (ps_if (PW.pt (pw_or (pt_not (pt_val (pe_cal cN (hr.mono (by decide)) rfl gN (pa_cons (pe_ix ix_tup (pv 4) pe_int (fun _ _ => rfl)) pa_nil)))) (pw_or1 (pt_not (pt_chain op_le op_lt pe_int (pe_ix ix_tup (pv 4) pe_int (fun _ _ => rfl)) (pe_pcal cW Tt.cl hW hr (pv 1))))))) (pss_one ps_never) pss_nil)))) (pss_cons (ps_fld (pv 0) (pv 1) rfl) (pss_cons (ps_fld (pv 0) (pe_nnew (c := kcS)) rfl) (pss_cons (ps_for PassesOwn.never rfl (pi_list (pv 2)) (pg_tup rfl (pgs_cons (pg_name (i := 5) nd rfl (.inl rfl)) (pgs_cons (pg_name (i := 6) nd rfl (.inl rfl)) (pgs_cons (pg_name (i := 7) nd rfl (.inl rfl)) pgs_nil)))) (pss_one (ps_expr (pe_mcal cA T.cl mA (hr.mono (by decide)) (pv 0) (pa_cons (pe_tup (pa_cons (pe_mcal cR Tt.cl mR hr (pv 1) (pa_cons (pv 5) pa_nil)) (pa_cons (pv 6) pa_nil))) (pa_cons (pv 7) pa_nil)))))) (pss_frz (pss_one (ps_fld (pv 0) (pe_tup (pa_cons (pe_fld (pv 1) rfl) (pa_cons (pe_callTy call_tuple_of (by rfl) B.tuple (by decide +kernel) (pa_cons (pe_mcal0 cS T.cl mS (hr.mono (by decide)) (pv 0)) pa_nil)) pa_nil))) rfl))))))), ?_⟩
    have h3 : (3 : Nat) ≤ sizeLine := by decide
    have hn3 := hR.le
    obtain ⟨vr, er, ar⟩ := hr0
    have hT2 := hT
    obtain ⟨dxT, nrT, ldT, idT, itT, szT, hT1, _⟩ := hT2
    refine ⟨_, rfl, r, _, rfl, .of er, ?_⟩
    refine for_it walk_enum (fun i σ H1 => ∃ y3 y4, σ = [some (.ref x), some (.ref ta), some (.ref r), y3, y4, none, none, none] ∧ Same H H1) ⟨_, _, rfl, Same.refl _⟩ (fun i σ H1 _ ⟨_, _, _, sm⟩ => .of (sm _ _ er)) (fun i y σ H1 H' hi pv yy => ?_) (fun σ H1 pv => ?_)
    · obtain ⟨y3, y4, rfl, sm⟩ := pv
      obtain ⟨T1, x1, x2, rfl, nT, rfl, e1, e2⟩ := yy
      have hi' : i < ss.length := by rw [← ar.length]; exact hi
      have smT := sm.trans (same_new (o := .tup [x1, x2]) nT)
      obtain ⟨t, qa, rfl, hq, ht⟩ := LsE.walk ar (Same.tups smT) e2 (b := ss[i]) (by simp [hi'])
      obtain ⟨l1, l2⟩ := hS ss[i] (List.getElem_mem hi')
      generalize ss[i] = s at hq ht l1 l2
      refine ⟨T1, _, rfl, .of upd_same, rfl, _, _, rfl, _, _, rfl, rfl, ?_⟩
      refine ⟨_, rfl, t, _, 0, _, rfl, rfl, .of ht, atI_nat (j := 0) rfl, _, rfl, ta, dxT, _, rfl, smT _ _ hT1, ta, dxT, _, _, rfl, smT _ _ hT1, rfl, qa, s.1, by rw [l1]; rfl, hq, by omega, fun H2 sm2 => ⟨true, rfl, ?_⟩⟩
      refine iteN rfl ?_
      have smT2 := smT.trans sm2
      refine ⟨_, rfl, t, _, 1, _, rfl, rfl, .of (sm2 _ _ ht), atI_nat (j := 1) rfl, _, rfl, true, rfl, ?_⟩
      refine iteN rfl ?_
      refine ⟨_, rfl, t, _, 1, _, rfl, rfl, .of (sm2 _ _ ht), atI_nat (j := 1) rfl, _, _, rfl, rfl, _, rfl, ?_⟩
      refine iteY (decide_eq_true (by omega)) ?_
      refine ⟨_, rfl, ta, dxT, _, rfl, smT2 _ _ hT1, ta, dxT, _, _, rfl, smT2 _ _ hT1, rfl, _, _, rfl, rfl, _, rfl, ?_⟩
      refine iteN (by rw [decide_eq_true (by omega)]; rfl) ?_
      exact ⟨_, _, rfl, smT2⟩
    · obtain ⟨y3, y4, rfl, sm⟩ := pv
      have hx1 := sm _ _ hx
      refine ⟨_, rfl, _, rfl, x, C, dx, _, rfl, hx1, T.cl, T.own_table, by simp, ?_⟩
      have hx2 : upd H1 x (.ins C dx (putF "own_table" (.ref ta) [])) x = some (.ins C dx [("own_table", .ref ta)]) := upd_same
      have t2 : SameX x H1 _ := sameX_upd (o := .ins C dx (putF "own_table" (.ref ta) []))
      have s2 : SameX x H _ := (Same.x sm).trans t2
      generalize upd H1 x (.ins C dx (putF "own_table" (.ref ta) [])) = H2 at hx2 s2 t2
      refine fun kd o nk hd0 no => ?_
      have t3 : Same H2 (upd H2 kd o) := same_new nk
      refine ⟨_, rfl, x, C, dx, _, rfl, t3 _ _ hx2, T.cl, T.known, by simp, ?_⟩
      have hx4 : upd (upd H2 kd o) x (.ins C dx (putF "known" (.ref kd) [("own_table", .ref ta)])) x = some (.ins C dx [("own_table", .ref ta), ("known", .ref kd)]) := upd_same
      have t4 : SameX x (upd H2 kd o) _ := sameX_upd (o := .ins C dx (putF "known" (.ref kd) [("own_table", .ref ta)]))
      have s4 : SameX x H _ := (s2.trans (Same.x t3)).trans t4
      have hkx : kd ≠ x := fun e => by rw [e, hx2] at nk; cases nk
      have hd4 : DN P w kcS _ kd [] := hd0.keep (upd_ne hkx) (t4.tups (t3 _ _ hx2))
      generalize upd (upd H2 kd o) x (.ins C dx (putF "known" (.ref kd) [("own_table", .ref ta)])) = H4 at hx4 t4 s4 hd4
      have hnx : ta ≠ x := fun e => by rw [e, hx] at hT1; cases hT1
      have hT4 : TabAt CT H4 ta n R := hT.sameX s4 hx hnx
      have hr4 : LsE ecS H4 r ss := LsE.sameX ⟨vr, er, ar⟩ s4 hx
      obtain ⟨v4, e4, a4⟩ := hr4
      have hkH : H kd = none := by
        cases e : H kd with
        | none => rfl
        | some u =>
          have := s2 kd u hkx e
          rw [nk] at this
          cases this
      refine ⟨_, rfl, r, rfl, ⟨_, .of e4⟩, ?_⟩
      have hrk : r ≠ kd := hd4.lst e4
      have hxk : x ≠ kd := Ne.symm hkx
      refine for_it walk_list (fun i σ H5 => ∃ y3 y4 y5 y6 y7, σ = [some (.ref x), some (.ref ta), some (.ref r), y3, y4, y5, y6, y7] ∧ SameX kd H4 H5 ∧ DN P w kcS H5 kd ((ss.take i).foldl (wStep R) [])) ⟨_, _, _, _, _, rfl, SameX.refl _ _, hd4⟩ (fun i σ H5 _ ⟨_, _, _, _, _, _, sx, _⟩ => .of (sx _ _ hrk e4)) (fun i y σ H5 H6 hi pv yy => ?_) (fun σ H5 pv => ?_)
      · obtain ⟨y3, y4, y5, y6, y7, rfl, sx, hd5⟩ := pv
        obtain ⟨rfl, e⟩ := yy
        have hi' : i < ss.length := by rw [← a4.length]; exact hi
        have hss : ss[i]? = some ss[i] := by simp [hi']
        have hkT := hd4.stx sx
        obtain ⟨t, qa, rfl, hq, ht⟩ := LsE.walk a4 hkT e hss
        obtain ⟨l1, l2⟩ := hS ss[i] (List.getElem_mem hi')
        have hb := fun h => hB h ss[i] (List.getElem_mem hi')
        have hnext := take_step R hss
        have hlen := length_steps R (ss.take i) []
        have htl := List.length_take_le i ss
        rw [List.length_nil] at hlen
        generalize ss[i] = s at hq ht l1 l2 hb hnext
        have hT5 : TabAt CT H6 ta n R := hT4.stx hd4 sx
        have hT6 := hT5
        obtain ⟨dxT, nrT, ldT, idT, itT, szT, hT51, _⟩ := hT6
        have hx5 := sx _ _ hxk hx4
        refine ⟨t, _, rfl, .of ht, rfl, _, _, rfl, _, _, rfl, _, _, rfl, rfl, ?_⟩
        refine ⟨_, rfl, x, dx, _, rfl, hx5, rfl, _, rfl, ta, dxT, _, rfl, hT51, rfl, _, rfl, ta, qa, n, R, s.1, rfl, hT5, hR, hq, l1, hb, fun H7 c sm7 hc => ?_⟩
        refine ⟨_, rfl, by show 2 ≤ sizeLine; omega, fun t2 nt2 => ?_⟩
        have sm8 : Same H7 (upd H7 t2 (.tup [.ref c, .int (s.2.1 : Int)])) := same_new nt2
        refine ⟨_, rfl, x, t2, dx, kd, _, (redR R s.1, s.2.1), s.2.2, _, rfl, sm8 _ _ (sm7 _ _ hx5), rfl, (hd5.same sm7).same sm8, ⟨c, sm8 _ _ hc, upd_same⟩, by omega, fun H9 sx9 hd9 => ?_⟩
        refine ⟨_, _, _, _, _, rfl, sx.trans ((Same.x (sm7.trans sm8)).trans sx9), ?_⟩
        rw [hnext]
        exact hd9
      · obtain ⟨y3, y4, y5, y6, y7, rfl, sx, hd5⟩ := pv
        have e : ss.take v4.length = ss := List.take_of_length_le (by rw [a4.length]; exact Nat.le_refl _)
        rw [e, ← mkW_eq] at hd5
        have hlen := mkW_len R ss
        generalize mkW R ss = es at hd5 q hlen
        have hd5' := hd5
        obtain ⟨kvs, ek, hek⟩ := hd5
        refine ⟨kd, _, ek, True.intro, fun od => ?_⟩
        have t6 : SameX kd H5 (upd H5 kd (.frz od (hoN P w kd kvs))) := sameX_upd
        have hf6 : FN P w kcS (upd H5 kd (.frz od (hoN P w kd kvs))) kd es := ⟨od, kvs, upd_same, hek.keep (hd5'.stx t6)⟩
        have sx6 := sx.trans t6
        have hx6 := sx6 _ _ hxk hx4
        have hT6 : TabAt CT _ ta n R := (hT4.stx hd4 sx).stx hd5' t6
        have s6 : SameX x H (upd H5 kd (.frz od (hoN P w kd kvs))) := fun b u nb hb => by
          by_cases hbk : b = kd
          · rw [hbk, hkH] at hb; cases hb
          · exact sx6 b u hbk (s4 b u nb hb)
        generalize upd H5 kd (.frz od (hoN P w kd kvs)) = H6 at hf6 hx6 hT6 s6
        have hT7 := hT6
        obtain ⟨dxT, nrT, ldT, idT, itT, szT, g1, g2, g3, g4, vs, g5, g6⟩ := hT7
        refine ⟨_, rfl, ta, CT, dxT, _, _, rfl, g1, Tt.cl, Tt.identity, rfl, _, rfl, x, dx, _, rfl, hx6, rfl, x, dx, kd, _, es, rfl, hx6, rfl, hf6, by omega, fun H7 b sm7 hb => ?_⟩
        obtain ⟨ws, ew, aw⟩ := hb
        refine ⟨b, ws, rfl, .inl ⟨.of ew, fun ts nts => ?_⟩⟩
        refine ⟨by show 2 ≤ sizeLine; omega, fun id nid => ?_⟩
        have t8 : Same H7 (upd (upd H7 ts (.tup ws)) id (.tup [.ref idT, .ref ts])) := (same_new nts).trans (same_new nid)
        have hts8 : upd (upd H7 ts (.tup ws)) id (.tup [.ref idT, .ref ts]) ts = some (.tup ws) := same_new nid _ _ upd_same
        have hid8 : upd (upd H7 ts (.tup ws)) id (.tup [.ref idT, .ref ts]) id = some (.tup [.ref idT, .ref ts]) := upd_same
        generalize upd (upd H7 ts (.tup ws)) id (.tup [.ref idT, .ref ts]) = H8 at t8 hts8 hid8
        have sm8 := sm7.trans t8
        have hx8 := sm8 _ _ hx6
        refine ⟨_, rfl, x, C, dx, _, rfl, hx8, T.cl, T.identity, by simp, ?_⟩
        have t9 : SameX x H8 _ := sameX_upd (o := .ins C dx (putF "identity" (.ref id) [("own_table", .ref ta), ("known", .ref kd)]))
        have hff : FN P w kcS (upd H8 x (.ins C dx (putF "identity" (.ref id) [("own_table", .ref ta), ("known", .ref kd)]))) kd es := by
          obtain ⟨o2, k2, e2, r2⟩ := hf6.same sm8
          exact ⟨o2, k2, (upd_ne hkx).trans e2, r2.keep (t9.tups hx8)⟩
        refine q _ ((s6.trans (Same.x sm8)).trans t9) ⟨dx, kd, id, idT, ts, itT, vs, ws, upd_same, (hT6.same sm8).sameX t9 hx8 hnx, hff, t9.tups hx8 _ _ hid8, t9.tups hx8 _ _ (sm8 _ _ g4), t9.tups hx8 _ _ (sm8 _ _ g5), ecP.allKeep (STup.trans (Same.tups sm8) (t9.tups hx8)) g6, t9.tups hx8 _ _ hts8, ecS.allKeep (STup.trans (Same.tups t8) (t9.tups hx8)) aw⟩
end
end K35
/-! text D12 -/
set_option Elab.async false
set_option linter.all false
set_option maxRecDepth 100000
set_option maxHeartbeats 4000000
/-! walks, 3 -/
namespace K35
open PySem PySem.Spec PyProof.Rows L2
theorem streets_ok {n : Nat} : ∀ (v : Wd) (p : Place), p.length = n → WF n v → SOk n (streetsOf p v)
  | [], _, _, _ => fun s hs => nomatch hs
  | g :: v, p, hp, hv => by
    have hg := hv g (List.mem_cons_self ..)
    have hv' : WF n v := fun x hx => hv x (List.mem_cons_of_mem _ hx)
    have l1 : ∀ d, (stp p g.1 d).length = n := fun d => by rw [stp_len _ _ _ (by omega)]; exact hp
    unfold streetsOf
    intro s hs
    split at hs
    · rcases List.mem_cons.mp hs with rfl | hs
      · exact ⟨hp, hg⟩
      · exact streets_ok v _ (l1 _) hv' s hs
    · rcases List.mem_cons.mp hs with rfl | hs
      · exact ⟨l1 _, hg⟩
      · exact streets_ok v _ (l1 _) hv' s hs
theorem made_same {H H' : Hp} {x dx C : Addr} (nx : H x = none) (ndx : H dx = none) (s : SameX x (upd (upd H dx (.own x)) x (.ins C dx [])) H') : Same H H' := fun b u e => by
  have h1 : b ≠ x := ne_of_none e nx
  have h2 : b ≠ dx := ne_of_none e ndx
  exact s b u h1 (by rw [upd_ne h1, upd_ne h2]; exact e)
theorem made_to {H : Hp} {x dx C : Addr} (nx : H x = none) (ndx : H dx = none) : Same H (upd (upd H dx (.own x)) x (.ins C dx [])) := fun b u e => by
  rw [upd_ne (ne_of_none e nx), upd_ne (ne_of_none e ndx)]
  exact e
theorem WkAt.ins {P : Program} {w : World} {CT C : Addr} {H : Hp} {a ta : Addr} {n : Nat} {R : List Place} {es : WE} (h : WkAt P w CT C H a ta n R es) : ∃ dx kd id, H a = some (.ins C dx [("own_table", .ref ta), ("known", .ref kd), ("identity", .ref id)]) ∧ TabAt CT H ta n R ∧ FN P w kcS H kd es := by
  obtain ⟨dx, kd, id, ti, ts, it, vs, ws, h1, h2, h3, _⟩ := h
  exact ⟨dx, kd, id, h1, h2, h3⟩
section
variable {P : Program} {w : World} {K : PySem.W.Frag} {mg : Str → Option Value} {base : Heap} {f C CT : Addr} {fd : FuncData}
/-- what C(table, streets) asks -/
theorem rd_walk {H : Hp} {ta r : Addr} {n : Nat} {R : List Place} {ss : List St3} {Q : VK} (hT : TabAt CT H ta n R) (hR : RowsOk n R) (hr : LsE ecS H r ss) (hS : SOk n ss) (hB : R ≠ [] → ∀ s ∈ ss, Bp s.1) (hz : ss.length < sizeLine)
    (q : ∀ H' a, Same H H' → WkAt P w CT C H' a ta n R (mkW R ss) → Q (.ref a) H') :
    ∀ x dx, H x = none → H dx = none → dx ≠ x → sp_winit P w CT C (.ref x :: ([.ref ta, .ref r] ++ [])) (upd (upd H dx (.own x)) x (.ins C dx [])) (fun v H2 => v = .non ∧ Q (.ref x) H2) E0 := by
  intro x dx nx ndx ne
  have s := made_to (C := C) nx ndx
  exact ⟨x, dx, ta, r, n, R, ss, rfl, hT.same s, hR, hr.same s, hS, hB, hz, upd_same, fun H' sx hw => ⟨rfl, q _ _ (made_same nx ndx sx) hw⟩⟩
abbrev s_wof : Stmt := inClass (top 36) 2
theorem sc_wof : FnScope ["cls", "table", "word", "letters", "start", "first"] ["cls", "table", "word", "letters", "start"] (defScope s_wof) := ⟨rfl, rfl, rfl, by decide +kernel, rfl, by decide +kernel, by decide +kernel⟩
def sp_wof (P : Program) (w : World) (CT C : Addr) : Sp := fun vs H Q _ => ∃ (ta : Addr) (L : List Nat) (v : Wd) (sv : V) (R : List Place) (p : Place), vs = [.ref C, .ref ta, .str (wd L v), .str (lt L), sv] ∧ LG L ∧ WF L.length v ∧ v.length < sizeLine ∧ TabAt CT H ta L.length R ∧ RowsOk L.length R ∧
  p.length = L.length ∧ ((sv = .non ∧ p = zeroP L.length) ∨ ∃ b, sv = .ref b ∧ IT H b p) ∧ (R ≠ [] → ∀ s ∈ streetsOf p v, Bp s.1) ∧ ∀ H' a, Same H H' → WkAt P w CT C H' a ta L.length R (mkW R (streetsOf p v)) → Q (.ref a) H'
theorem ok_wof {ds : List Value} {fCW fW pW fK fS fI : Addr} {fdW fdK fdS fdI : FuncData} (F : FunD K "of" "Walk.of" (defArgs s_wof) (defBody s_wof) (defScope s_wof) [] [("start", .non)] f fd) (B : Fre mg) (Tt : TabF K CT)
    (cCW : FnR P w K mg base CX0 2 fCW sp_check_words) (kCW : PySem.W.keepIn K (.ref fCW) = true) (gCW : mg "check_words" = some (.ref fCW)) (cW : Cal P w K mg base 1 ["self"] (getSp CT "own_width") fW fdW) (hW : PropOf K CT "width" pW fW)
    (cK : Cal P w K mg base 3 ["value", "width"] sp_check_counts fK fdK) (gK : mg "check_counts" = some (.ref fK)) (cS : Cal P w K mg base 2 ["word", "letters", "start"] sp_streets_of fS fdS) (gS : mg "streets_of" = some (.ref fS))
    (M : Mk K C fI) (cI : FnOk P w K mg base CX0 3 fI fdI ["self", "table", "streets"] (sp_winit P w CT C)) (bI : Binds K fdI ["self", "table", "streets"] []) :
    FnOk P w K mg base CX0 5 f fd ["cls", "table", "word", "letters", "start"] (sp_wof P w CT C) := by
  refine F.ok sc_wof (fun vs H Q E h => ?_) (fun cdv A outer s H vs Q E hr h => ?_)
  · obtain ⟨ta, L, v, sv, R, p, rfl, _⟩ := h
    rfl
  · obtain ⟨ta, L, v, sv, R, p, rfl, lg, hv, hz, hT, hR, hp, hsv, hB, q⟩ := h
    have nd := sc_wof.nd
    refine ⟨_, PSs.nox (pss_cons (ps_if (pt_cmpR op_ne (pe_callB call_len_str (by rfl) B.len PySem.boot_len (pa_cons (pv 3) pa_nil)) (pe_pcal cW Tt.cl hW (hr.mono (by decide)) (pv 1)) (nomark _)) (pss_one ps_never) pss_nil) (pss_cons (ps_expr (pe_calR cCW kCW (hr.mono (by decide)) rfl gCW (pa_cons (pv 3) (pa_cons (pv 2) pa_nil)))) (pss_cons (ps_set (i := 5) nd rfl (.inl rfl) (pe_ifExp (pt_cmpR op_isN (pv 4) pe_non (nomark _)) (pe_op op_repZ (pe_tup (pa_cons pe_int pa_nil)) (pe_pcal cW Tt.cl hW (hr.mono (by decide)) (pv 1))) (pv 4))) (pss_cons (ps_expr (pe_cal cK (hr.mono (by decide)) rfl gK (pa_cons (pv 5) (pa_cons (pe_pcal cW Tt.cl hW (hr.mono (by decide)) (pv 1)) pa_nil)))) (pss_one (ps_ret (pe_makeL (i := 0) M cI hr rfl (.inl rfl) bI .nil pass0 (pa_cons (pv 1) (pa_cons (pe_cal cS (hr.mono (by decide)) rfl gS (pa_cons (pv 2) (pa_cons (pv 3) (pa_cons (pv 5) pa_nil)))) pa_nil))))))))), ?_⟩
    have h3 : (3 : Nat) ≤ sizeLine := by decide
    have hn3 := lg.le
    have hn1 := lg.pos
    have hT2 := hT
    obtain ⟨dxT, nrT, ldT, idT, itT, szT, hT1, _⟩ := hT2
    have hltl : (lt L).length = L.length := lt_size L
    refine ⟨_, rfl, _, rfl, by rw [hltl]; omega, _, rfl, ta, dxT, _, rfl, hT1, ta, dxT, _, _, rfl, hT1, rfl, rfl, _, rfl, ?_⟩
    refine iteN (by rw [hltl]; simp) ?_
    refine ⟨_, rfl, _, rfl, L, [v], lg, fun y hy => by rw [List.mem_singleton.mp hy]; exact ⟨hv, Nat.le_of_lt hz⟩, by show 1 ≤ 2; decide, rfl, fun H1 sm1 => ?_⟩
    have fin : ∀ H2 b, Same H H2 → IT H2 b p → True := fun _ _ _ _ => trivial
    have hT3 := sm1 _ _ hT1
    refine ⟨_, rfl, rfl, _, rfl, ?_⟩
    rcases hsv with ⟨rfl, rfl⟩ | ⟨b, rfl, hb⟩
    · refine iteY (decide_eq_true rfl) ?_
      refine ⟨by show 1 ≤ sizeLine; omega, fun t nt => ⟨_, rfl, ta, dxT, _, rfl, same_new nt _ _ hT3, ta, dxT, _, _, rfl, same_new nt _ _ hT3, rfl, t, _, _, rfl, rfl, upd_same, by simp, by omega, by omega, by show 1 ≤ 1000; decide, fun b H2 sm2 hb => ?_⟩⟩
      rw [Int.toNat_natCast, rep_zero] at hb
      have s2 := sm1.trans ((same_new nt).trans sm2)
      have hT4 := s2 _ _ hT1
      refine ⟨_, rfl, _, rfl, ta, dxT, _, rfl, hT4, ta, dxT, _, _, rfl, hT4, rfl, b, _, by rw [hp]; rfl, hb, by omega, fun H3 sm3 => ?_⟩
      refine ⟨rfl, _, rfl, _, rfl, _, rfl, _, rfl, L, v, b, _, lg, hv, hz, hp, rfl, sm3 _ _ hb, fun H4 r sm4 hr4 => ?_⟩
      have s4 := s2.trans (sm3.trans sm4)
      exact rd_walk (hT.same s4) hR hr4 (streets_ok v _ hp hv) hB (by rw [streets_len]; exact hz) fun H5 a sm5 hw => q _ a (s4.trans sm5) hw
    · refine iteN (decide_eq_false fun q => nomatch q) ?_
      refine ⟨_, rfl, ?_⟩
      have hb := sm1 _ _ hb
      have s2 := sm1
      have hT4 := s2 _ _ hT1
      refine ⟨_, rfl, _, rfl, ta, dxT, _, rfl, hT4, ta, dxT, _, _, rfl, hT4, rfl, b, _, by rw [hp]; rfl, hb, by omega, fun H3 sm3 => ?_⟩
      refine ⟨rfl, _, rfl, _, rfl, _, rfl, _, rfl, L, v, b, _, lg, hv, hz, hp, rfl, sm3 _ _ hb, fun H4 r sm4 hr4 => ?_⟩
      have s4 := s2.trans (sm3.trans sm4)
      exact rd_walk (hT.same s4) hR hr4 (streets_ok v _ hp hv) hB (by rw [streets_len]; exact hz) fun H5 a sm5 hw => q _ a (s4.trans sm5) hw
end
end K35
/-! text D13 -/
set_option Elab.async false
set_option linter.all false
set_option maxRecDepth 100000
set_option maxHeartbeats 4000000
/-! walks, 4 -/
namespace K35
open PySem PySem.Spec PyProof.Rows L2
def KOk (n : Nat) (es : WE) : Prop := ∀ e ∈ es, e.1.1.length = n ∧ e.1.2 < n
theorem mem_putE {κ α : Type} [DecidableEq κ] {es : List (κ × α)} {k : κ} {v : α} {e : κ × α} (h : e ∈ putE es k v) : e.1 = k ∨ ∃ e' ∈ es, e'.1 = e.1 := by
  unfold putE at h
  split at h
  · obtain ⟨x, hx, rfl⟩ := List.mem_map.mp h
    split
    · rename_i hk
      exact .inl hk
    · exact .inr ⟨x, hx, rfl⟩
  · rcases List.mem_append.mp h with h | h
    · exact .inr ⟨e, h, rfl⟩
    · rw [List.mem_singleton.mp h]
      exact .inl rfl
theorem mem_addW {es : WE} {k : Place × Nat} {d : Int} {e : (Place × Nat) × Int} (h : e ∈ addW es k d) : e.1 = k ∨ ∃ e' ∈ es, e'.1 = e.1 := by
  unfold addW at h
  split at h
  · exact mem_putE h
  · split at h
    · exact .inr ⟨e, (List.mem_filter.mp h).1, rfl⟩
    · exact .inr ⟨e, h, rfl⟩
theorem kok_steps {n : Nat} {R : List Place} (hR : RowsOk n R) : ∀ (ss : List St3) (es : WE), SOk n ss → KOk n es → KOk n (ss.foldl (wStep R) es)
  | [], _, _, h => h
  | s :: ss, es, hs, h => by
    refine kok_steps hR ss _ (fun x hx => hs x (List.mem_cons_of_mem _ hx)) fun e he => ?_
    obtain ⟨l1, l2⟩ := hs s (List.mem_cons_self ..)
    rcases mem_addW he with q | ⟨e', h1, h2⟩
    · rw [q]
      exact ⟨redR_len hR l1, l2⟩
    · rw [← h2]
      exact h e' h1
theorem kok_mkW {n : Nat} {R : List Place} (hR : RowsOk n R) {ss : List St3} (h : SOk n ss) : KOk n (mkW R ss) := kok_steps hR ss [] h fun e he => nomatch he
theorem stS_perm (es : WE) : (stS es).Perm (es.map ofE) := isort_perm _
theorem stS_len (es : WE) : (stS es).length = es.length := by rw [(stS_perm es).length_eq, List.length_map]
theorem mem_stS {es : WE} {s : St3} : s ∈ stS es ↔ ((s.1, s.2.1), s.2.2) ∈ es := by
  rw [(stS_perm es).mem_iff, List.mem_map]
  constructor
  · rintro ⟨e, he, rfl⟩
    exact he
  · intro h
    exact ⟨_, h, rfl⟩
theorem sok_stS {n : Nat} {es : WE} (h : KOk n es) : SOk n (stS es) := fun s hs => h _ (mem_stS.mp hs)
def timesW (R : List Place) (es : WE) (k : Int) : WE := mkW R ((stS es).map fun s => (s.1, s.2.1, k * s.2.2))
def eStep (R : List Place) (d : List (Place × Int)) (e : (Place × Nat) × Int) : List (Place × Int) :=
  let d1 := putE d (redR R (stp e.1.1 e.1.2 1)) ((getE d (redR R (stp e.1.1 e.1.2 1))).getD 0 + e.2)
  putE d1 e.1.1 ((getE d1 e.1.1).getD 0 - e.2)
theorem endsD_eq (R : List Place) (es : WE) : endsD R es = es.foldl (eStep R) [] := rfl
theorem length_eSteps (R : List Place) : ∀ (es : WE) (d : List (Place × Int)), (es.foldl (eStep R) d).length ≤ d.length + 2 * es.length
  | [], d => Nat.le_refl _
  | e :: es, d => by
    have h1 := length_eSteps R es (eStep R d e)
    have h2 : (eStep R d e).length ≤ d.length + 2 := by
      unfold eStep
      have a := length_putE d (redR R (stp e.1.1 e.1.2 1)) ((getE d (redR R (stp e.1.1 e.1.2 1))).getD 0 + e.2)
      have b := length_putE (putE d (redR R (stp e.1.1 e.1.2 1)) ((getE d (redR R (stp e.1.1 e.1.2 1))).getD 0 + e.2)) e.1.1 ((getE (putE d (redR R (stp e.1.1 e.1.2 1)) ((getE d (redR R (stp e.1.1 e.1.2 1))).getD 0 + e.2)) e.1.1).getD 0 - e.2)
      exact Nat.le_trans b (Nat.succ_le_succ a)
    rw [List.foldl_cons, List.length_cons]
    omega
theorem take_eStep (R : List Place) {es : WE} {i : Nat} {e : (Place × Nat) × Int} (h : es[i]? = some e) : (es.take (i + 1)).foldl (eStep R) [] = eStep R ((es.take i).foldl (eStep R) []) e := by
  rw [take_snoc h, List.foldl_append]
  rfl
def wkD (n : Nat) (R : List Place) (ss : List St3) : PyData := .tuple [tabD n R, .tuple (ss.map ecS.dat)]
theorem eqv_streets : ∀ R S : List St3, PyData.eqvAll (R.map ecS.dat) (S.map ecS.dat) = decide (R = S)
  | [], [] => by simp [PyData.eqvAll]
  | [], _ :: _ => by simp [PyData.eqvAll]
  | _ :: _, [] => by simp [PyData.eqvAll]
  | r :: R, s :: S => by
    rw [List.map_cons, List.map_cons, PyData.eqvAll, eqv_streets R S]
    have e : PyData.eqv (ecS.dat r) (ecS.dat s) = decide (r = s) := by
      obtain ⟨p, i, n⟩ := r
      obtain ⟨q, j, m⟩ := s
      simp only [ecS]
      rw [PyData.eqv, PyData.eqvAll, PyData.eqvAll, PyData.eqvAll, PyData.eqvAll, PyData.eqv, PyData.eqv, PyData.eqv, eqv_ints]
      by_cases h1 : p = q <;> by_cases h2 : i = j <;> by_cases h3 : n = m <;> simp [h1, h2, h3]
      all_goals omega
    rw [e]
    by_cases h : r = s <;> by_cases h2 : R = S <;> simp [h, h2]
theorem eqv_wkD (n m : Nat) (R S : List Place) (a b : List St3) : PyData.eqv (wkD n R a) (wkD m S b) = (decide (n = m ∧ R = S) && decide (a = b)) := by
  unfold wkD
  rw [PyData.eqv, PyData.eqvAll, PyData.eqvAll, PyData.eqvAll, eqv_tabD, PyData.eqv, eqv_streets]
  simp
theorem shp_wkD (n : Nat) (R : List Place) (a : List St3) : SeqAt.shaped (wkD n R a) = true := by
  obtain ⟨h1, h2⟩ := can_tabD n R
  have h3 := canAll (a.map ecS.dat) fun d hd => by
    obtain ⟨x, _, rfl⟩ := List.mem_map.mp hd
    exact can_S x
  have h4 := depAll 2 (a.map ecS.dat) fun d hd => by
    obtain ⟨x, _, rfl⟩ := List.mem_map.mp hd
    exact dep_S x
  unfold SeqAt.shaped wkD
  rw [Bool.and_eq_true]
  constructor
  · simp only [PyData.canLay0, PyData.canLayAll0, h1, h3]
    rfl
  · refine decide_eq_true ?_
    simp only [PyData.depth, PyData.depthAll]
    omega
section
variable {P : Program} {w : World} {K : PySem.W.Frag} {mg : Str → Option Value} {base : Heap} {f C CT : Addr} {fd : FuncData}
/-! table -/
abbrev s_wtab : Stmt := inClass (top 36) 3
theorem sc_wtab : FnScope ["self"] ["self"] (defScope s_wtab) := ⟨rfl, rfl, rfl, by decide +kernel, rfl, by decide +kernel, by decide +kernel⟩
theorem c_wtab (F : FnP K "table" "Walk.table" s_wtab f fd) (T : WalF K C) : Cal P w K mg base 1 ["self"] (getSp C "own_table") f fd := by
  refine F.cal (F.ok sc_wtab (fun vs H Q E h => ?_) (fun cdv A outer s H vs Q E hr h => ?_)) (fun _ _ _ _ _ _ us hl => match us, hl with | [_], _ => rfl)
  · obtain ⟨a, dx, fs, v, rfl, _⟩ := h
    rfl
  · obtain ⟨a, dx, fs, v, rfl, ha, hl, q⟩ := h
    exact ⟨_, PSs.nox (pss_one (ps_ret (pe_fld (pv 0) rfl))), _, rfl, a, C, dx, fs, v, rfl, ha, T.cl, T.own_table, hl, q⟩
/-! at_street -/
abbrev s_wat : Stmt := inClass (top 36) 5
theorem sc_wat : FnScope ["self", "place", "letter", "named"] ["self", "place", "letter"] (defScope s_wat) := ⟨rfl, rfl, rfl, by decide +kernel, rfl, by decide +kernel, by decide +kernel⟩
def sp_wat (P : Program) (w : World) (CT C : Addr) : Sp := fun vs H Q _ => ∃ (x ta b n : Nat) (R : List Place) (es : WE) (p : Place) (i : Nat), vs = [.ref x, .ref b, .int (i : Int)] ∧ WkAt P w CT C H x ta n R es ∧ RowsOk n R ∧ IT H b p ∧ p.length = n ∧ i < n ∧ (R ≠ [] → Bp p) ∧ ∀ H', Same H H' → Q (.int ((getE es (redR R p, i)).getD 0)) H'
theorem c_wat {fN fW pW fP : Addr} {fdN fdW fdP : FuncData} (F : FnP K "at_street" "Walk.at_street" s_wat f fd) (Tt : TabF K CT) (T : WalF K C) (cN : Cal P w K mg base 1 ["value"] sp_is_number fN fdN) (gN : mg "is_number" = some (.ref fN))
    (cW : Cal P w K mg base 1 ["self"] (getSp CT "own_width") fW fdW) (hW : PropOf K CT "width" pW fW) (cP : Cal P w K mg base 4 ["self", "counts"] (sp_tred CT) fP fdP) (mP : Meth K CT "place" fP) : Cal P w K mg base 5 ["self", "place", "letter"] (sp_wat P w CT C) f fd := by
  refine F.cal (F.ok sc_wat (fun vs H Q E h => ?_) (fun cdv A outer s H vs Q E hr h => ?_)) (fun _ _ _ _ _ _ us hl => match us, hl with | [_, _, _], _ => rfl)
  · obtain ⟨x, ta, b, n, R, es, p, i, rfl, _⟩ := h
    rfl
  · obtain ⟨x, ta, b, n, R, es, p, i, rfl, hw, hR, hb, hp, hi, hB, q⟩ := h
    have nd := sc_wat.nd
    refine ⟨_, PSs.nox (pss_cons (ps_set (i := 3) nd rfl (.inl rfl) (pe_mcal cP Tt.cl mP hr (pe_fld (pv 0) rfl) (pa_cons (pv 1) pa_nil))) (pss_cons (ps_if (PW.pt (pw_or (pt_not (pt_val (pe_cal cN (hr.mono (by decide)) rfl gN (pa_cons (pv 2) pa_nil)))) (pw_or1 (pt_not (pt_chain op_le op_lt pe_int (pv 2) (pe_pcal cW Tt.cl hW (hr.mono (by decide)) (pe_fld (pv 0) rfl))))))) (pss_one ps_never) pss_nil) (pss_one (ps_ret (pe_nget2 (c := kcS) hr.units (pe_fld (pv 0) rfl) (pe_tup (pa_cons (pv 3) (pa_cons (pv 2) pa_nil))) pe_int ⟨rfl, rfl, rfl, rfl⟩))))), ?_⟩
    obtain ⟨dx, kd, id, h1, h2, h3⟩ := hw.ins
    have h22 := h2
    obtain ⟨dxT, nrT, ldT, idT, itT, szT, hT1, _⟩ := h22
    refine ⟨_, rfl, x, C, dx, _, _, rfl, h1, T.cl, T.own_table, rfl, ta, dxT, _, rfl, hT1, rfl, _, rfl, ta, b, n, R, p, rfl, h2, hR, hb, hp, hB, fun H1 c sm hc => ?_⟩
    refine ⟨_, rfl, _, rfl, true, rfl, ?_⟩
    refine iteN rfl ?_
    refine ⟨_, rfl, _, _, rfl, rfl, _, rfl, ?_⟩
    refine iteY (decide_eq_true (by omega)) ?_
    refine ⟨_, rfl, x, C, dx, _, _, rfl, sm _ _ h1, T.cl, T.own_table, rfl, ta, dxT, _, rfl, sm _ _ hT1, ta, dxT, _, _, rfl, sm _ _ hT1, rfl, _, _, rfl, rfl, _, rfl, ?_⟩
    refine iteN (by rw [decide_eq_true (by omega)]; rfl) ?_
    refine ⟨_, rfl, x, C, dx, _, _, rfl, sm _ _ h1, T.cl, T.known, rfl, kd, rfl, ⟨es, (h3.same sm).rd⟩, _, rfl, _, rfl, by show 2 ≤ sizeLine; decide, fun t nt => ?_⟩
    have s2 : Same H1 (upd H1 t (.tup [.ref c, .int (i : Int)])) := same_new nt
    exact ⟨t, (redR R p, i), es, 0, rfl, ⟨c, s2 _ _ hc, upd_same⟩, ((h3.same sm).same s2).rd, rfl, q _ (sm.trans s2)⟩
/-! bool, == -/
abbrev s_wbool : Stmt := inClass (top 36) 11
theorem sc_wbool : FnScope ["self"] ["self"] (defScope s_wbool) := ⟨rfl, rfl, rfl, by decide +kernel, rfl, by decide +kernel, by decide +kernel⟩
def sp_wbool (P : Program) (w : World) (CT C : Addr) : Sp := fun vs H Q _ => ∃ (x ta n : Nat) (R : List Place) (es : WE), vs = [.ref x] ∧ WkAt P w CT C H x ta n R es ∧ Q (.bl (decide (es ≠ []))) H
theorem c_wbool (F : FnP K "__bool__" "Walk.__bool__" s_wbool f fd) (B : Fre mg) (T : WalF K C) : Cal P w K mg base 1 ["self"] (sp_wbool P w CT C) f fd := by
  refine F.cal (F.ok sc_wbool (fun vs H Q E h => ?_) (fun cdv A outer s H vs Q E hr h => ?_)) (fun _ _ _ _ _ _ us hl => match us, hl with | [_], _ => rfl)
  · obtain ⟨x, ta, n, R, es, rfl, _⟩ := h
    rfl
  · obtain ⟨x, ta, n, R, es, rfl, hw, q⟩ := h
    have nd := sc_wbool.nd
    refine ⟨_, PSs.nox (pss_one (ps_ret (pe_cmpR op_gt (pe_callB (call_lenN (c := kcS)) (by rfl) B.len PySem.boot_len (pa_cons (pe_fld (pv 0) rfl) pa_nil)) pe_int (nomark _)))), ?_⟩
    obtain ⟨dx, kd, id, h1, h2, h3⟩ := hw.ins
    refine ⟨_, rfl, x, C, dx, _, _, rfl, h1, T.cl, T.known, rfl, kd, es, rfl, h3.rd, _, _, rfl, rfl, ?_⟩
    have e : decide ((0 : Int) < (es.length : Int)) = decide (es ≠ []) := by
      cases es <;> simp
    rw [← e] at q
    exact q
abbrev s_weq : Stmt := inClass (top 36) 13
theorem sc_weq : FnScope ["self", "other"] ["self", "other"] (defScope s_weq) := ⟨rfl, rfl, rfl, by decide +kernel, rfl, by decide +kernel, by decide +kernel⟩
def sp_weq (P : Program) (w : World) (CT C : Addr) : Sp := fun vs H Q _ => ∃ (x ta y tb n m : Nat) (R S : List Place) (es fs : WE), vs = [.ref x, .ref y] ∧ WkAt P w CT C H x ta n R es ∧ WkAt P w CT C H y tb m S fs ∧ Q (.bl (decide (n = m ∧ R = S) && decide (stS es = stS fs))) H
theorem c_weq (F : FnP K "__eq__" "Walk.__eq__" s_weq f fd) (B : Fre mg) (T : WalF K C) (I : C8.InsC K C) (gT : mg "Walk" = some (.ref C)) : Cal P w K mg base 1 ["self", "other"] (sp_weq P w CT C) f fd := by
  refine F.cal (F.ok sc_weq (fun vs H Q E h => ?_) (fun cdv A outer s H vs Q E hr h => ?_)) (fun _ _ _ _ _ _ us hl => match us, hl with | [_, _], _ => rfl)
  · obtain ⟨x, ta, y, tb, n, m, R, S, es, fs, rfl, _⟩ := h
    rfl
  · obtain ⟨x, ta, y, tb, n, m, R, S, es, fs, rfl, ⟨dx, kd, id, ti, ts, it, vs, ws, h1, h2, h3, h4, h5, h6, h7, h8, h9⟩, ⟨dx', kd', id', ti', ts', it', vs', ws', g1, g2, g3, g4, g5, g6, g7, g8, g9⟩, q⟩ := h
    have nd := sc_weq.nd
    refine ⟨_, PSs.nox (pss_one (ps_ret (pe_and (pe_callB (C8.call_isC I) (by rfl) B.isinstance (by decide +kernel) (pa_cons (pv 1) (pa_cons (pe_glob (v := .ref C) rfl gT rfl) pa_nil))) (pe_one (pe_cmpR (op_eqD hr.units) (pe_fld (pv 0) rfl) (pe_fld (pv 1) rfl) (nomark _)))))), ?_⟩
    refine ⟨_, rfl, y, dx', _, rfl, g1, true, rfl, iteT ?_⟩
    refine ⟨_, rfl, x, C, dx, _, _, rfl, h1, T.cl, T.identity, rfl, _, rfl, y, C, dx', _, _, rfl, g1, T.cl, T.identity, rfl, ?_⟩
    refine ⟨wkD n R (stS es), wkD m S (stS fs), .tup (.of h4) (.cons (dp_tabD h5 h6 h7) (.cons (.tup (.of h8) (ecS.dpAll h9)) .nil)), .tup (.of g4) (.cons (dp_tabD g5 g6 g7) (.cons (.tup (.of g8) (ecS.dpAll g9)) .nil)), shp_wkD _ _ _, shp_wkD _ _ _, ?_⟩
    rw [eqv_wkD]
    exact q
end
end K35
/-! text D14 -/
set_option Elab.async false
set_option linter.all false
set_option maxRecDepth 100000
set_option maxHeartbeats 4000000
/-! walks, 5 -/
namespace K35
open PySem PySem.Spec PyProof.Rows L2
theorem FNo.stx {P : Program} {w : World} {H H' : Hp} {d kd : Addr} {κ κ' : Type} {c : KC κ} {c' : KC κ'} {es : List (κ × Int)} {ks : List (κ' × Int)} {od : Obj} (g : FNo P w c' H kd od ks) (h : DN P w c H d es) (s : SameX d H H') : FNo P w c' H' kd od ks := by
  obtain ⟨kvs, e, r⟩ := g
  refine ⟨kvs, s _ _ ?_ e, r.keep (h.stx s)⟩
  rintro rfl
  obtain ⟨kvs', e', _⟩ := h
  rw [e'] at e
  cases e
section
variable {P : Program} {w : World} {K : PySem.W.Frag} {mg : Str → Option Value} {base : Heap} {f C CT : Addr} {fd : FuncData}
/-! ends -/
abbrev s_wends : Stmt := inClass (top 36) 6
theorem sc_wends : FnScope ["self", "found", "place", "letter", "number", "end"] ["self"] (defScope s_wends) := ⟨rfl, rfl, rfl, by decide +kernel, rfl, by decide +kernel, by decide +kernel⟩
def sp_wends (P : Program) (w : World) (CT C : Addr) : Sp := fun vs H Q _ => ∃ (x ta n : Nat) (es : WE), vs = [.ref x] ∧ WkAt P w CT C H x ta n [] es ∧ 1 ≤ n ∧ n ≤ 3 ∧ KOk n es ∧ 2 * es.length < sizeLine ∧ ∀ H' b, Same H H' → LsE ecE H' b (ends [] es) → Q (.ref b) H'
theorem c_wends {fS fR : Addr} {fdS fdR : FuncData} (F : FnP K "ends" "Walk.ends" s_wends f fd) (B : Fre mg) (Tt : TabF K CT) (T : WalF K C) (cS : Cal P w K mg base 1 ["place", "letter", "way"] sp_stepped fS fdS) (gS : mg "stepped" = some (.ref fS))
    (cR : Cal P w K mg base 2 ["self", "counts"] (sp_tred CT) fR fdR) (mR : Meth K CT "reduced" fR) : Cal P w K mg base 3 ["self"] (sp_wends P w CT C) f fd := by
  refine F.cal (F.ok sc_wends (fun vs H Q E h => ?_) (fun cdv A outer s H vs Q E hr h => ?_)) (fun _ _ _ _ _ _ us hl => match us, hl with | [_], _ => rfl)
  · obtain ⟨x, ta, n, es, rfl, _⟩ := h
    rfl
  · obtain ⟨x, ta, n, es, rfl, hw, hn1, hn3, hk, hz, q⟩ := h
    have nd := sc_wends.nd
    refine ⟨_, PSs.nox (pss_cons (ps_set (i := 1) nd rfl (.inl rfl) (pe_nnew (c := kcP))) (pss_cons (ps_for PassesOwn.never rfl (pi_nitems (c := kcS) (pe_fld (pv 0) rfl)) (pg_tup rfl (pgs_cons (pg_tup rfl (pgs_cons (pg_name (i := 2) nd rfl (.inl rfl)) (pgs_cons (pg_name (i := 3) nd rfl (.inl rfl)) pgs_nil))) (pgs_cons (pg_name (i := 4) nd rfl (.inl rfl)) pgs_nil))) (pss_cons (ps_set (i := 5) nd rfl (.inl rfl) (pe_mcal cR Tt.cl mR hr (pe_fld (pv 0) rfl) (pa_cons (pe_cal cS (hr.mono (by decide)) rfl gS (pa_cons (pv 2) (pa_cons (pv 3) (pa_cons pe_int pa_nil)))) pa_nil))) (pss_cons (ps_nput (c := kcP) hr.units (pv 1) (pv 5) (pe_op op_add (pe_nget2 (c := kcP) hr.units (pv 1) (pv 5) pe_int ⟨rfl, rfl, rfl, rfl⟩) (pv 4)) rfl) (pss_one (ps_nput (c := kcP) hr.units (pv 1) (pv 2) (pe_op op_sub (pe_nget2 (c := kcP) hr.units (pv 1) (pv 2) pe_int ⟨rfl, rfl, rfl, rfl⟩) (pv 4)) rfl))))) (pss_frz (pss_one (ps_ret (pe_callB (call_sortedE ecE alike_E (fun b => ⟨_, _, rfl⟩) (fun b => Nat.le_trans (dep_E b) (by decide)) hr.units) (by rfl) B.sorted (by decide +kernel) (pa_cons (pe_lc (own := [("place", 2), ("number", 4)]) (g := (gTup K 2 (gCons (gName 2) (gCons (gName 4) gNil)))) rfl nd (pi_nitems (c := kcP) (pv 1)) (blkOk_by (N := ["self", "found", "place", "letter", "number", "end"]) (sc := defScope s_wends) (by decide +kernel)) (fun _ _ _ _ _ => (pg_tup rfl (pgs_cons (pg_name (i := 2) nd rfl (.inl rfl)) (pgs_cons (pg_name (i := 4) nd rfl (.inl rfl)) pgs_nil)))) (fun _ _ _ _ _ => (pts_one (pt_cmpR op_ne (pv 4) pe_int (nomark _)))) (fun _ _ _ _ _ => (pe_tup (pa_cons (pv 2) (pa_cons (pv 4) pa_nil))))) pa_nil))))))), ?_⟩
    obtain ⟨dx, kd, id, h1, h2, h3⟩ := hw.ins
    obtain ⟨od, h3⟩ := h3.o
    have hR0 : RowsOk n [] := ⟨by decide, (fun r hr => nomatch hr), hn1, hn3⟩
    refine fun fo o nf hd0 no => ?_
    have s1 : Same H (upd H fo o) := same_new nf
    generalize upd H fo o = H1 at hd0 s1
    have hx1 := s1 _ _ h1
    have h31 := h3.same s1
    have h21 := h2.same s1
    have hfx : x ≠ fo := Ne.symm (hd0.ne hx1)
    refine ⟨_, rfl, x, C, dx, _, _, rfl, hx1, T.cl, T.known, rfl, kd, od, es, rfl, h31, ?_⟩
    refine for_it walk_nitems (fun i σ H2 => ∃ y2 y3 y4 y5, σ = [some (.ref x), some (.ref fo), y2, y3, y4, y5] ∧ SameX fo H1 H2 ∧ DN P w kcP H2 fo ((es.take i).foldl (eStep []) [])) ⟨_, _, _, _, rfl, SameX.refl _ _, hd0⟩ (fun i σ H2 _ ⟨_, _, _, _, _, sx, _⟩ => h31.stx hd0 sx) (fun i y σ H2 H3 hi pv yy => ?_) (fun σ H2 pv => ?_)
    · obtain ⟨y2, y3, y4, y5, rfl, sx, hd⟩ := pv
      obtain ⟨T1, k, m, a, he, rfl, nT, rfl, qa, hq, ha⟩ := yy
      obtain ⟨l1, l2⟩ := hk _ (List.mem_of_getElem? he)
      have hnext := take_eStep [] he
      have hlen := length_eSteps [] (es.take i) []
      have htl := List.length_take_le i es
      rw [List.length_nil] at hlen
      obtain ⟨p, l⟩ := k
      have l1 : p.length = n := l1
      have l2 : l < n := l2
      generalize (es.take i).foldl (eStep []) [] = dd at hd hnext hlen
      have sT : Same H2 (upd H2 T1 (.tup [.ref a, .int m])) := same_new nT
      have hq := sT _ _ hq
      refine ⟨T1, _, rfl, .of upd_same, rfl, _, _, rfl, a, _, rfl, .of (sT _ _ ha), rfl, _, _, rfl, _, _, rfl, rfl, _, _, rfl, rfl, ?_⟩
      have hd := hd.same sT
      have hx2 := sT _ _ (sx _ _ hfx hx1)
      have h22 := (h21.stx hd0 sx).same sT
      have sx2 := sx.trans (Same.x sT)
      generalize upd H2 T1 (.tup [.ref a, .int m]) = H3 at hq hd hx2 h22 sx2
      obtain ⟨dxT, nrT, ldT, idT, itT, szT, hT1, _⟩ := _root_.id h22
      refine ⟨_, rfl, x, C, dx, _, _, rfl, hx2, T.cl, T.own_table, rfl, ta, dxT, _, rfl, hT1, rfl, _, rfl, _, rfl, qa, p, l, 1, rfl, hq, by omega, by omega, fun H4 c sm4 hc => ?_⟩
      refine ⟨ta, c, n, [], stp p l 1, rfl, h22.same sm4, hR0, hc, by rw [stp_len _ _ _ (by omega)]; exact l1, fun z => absurd rfl z, fun H5 c2 sm5 hc2 => ?_⟩
      have hd5 := (hd.same sm4).same sm5
      have hq5 := sm5 _ _ (sm4 _ _ hq)
      have sx5 := sx2.trans (Same.x (sm4.trans sm5))
      refine ⟨_, rfl, fo, rfl, ⟨_, hd5.rd⟩, _, rfl, c2, _, _, 0, rfl, hc2, hd5.rd, rfl, _, rfl, _, _, rfl, rfl, _, rfl, _, rfl, fo, c2, _, dd, _, rfl, rfl, rfl, hc2, hd5, by omega, fun o2 hd6 => ?_⟩
      have sx6 : SameX fo H5 (upd H5 fo o2) := sameX_upd
      have hq6 := hd5.stx sx6 _ _ hq5
      generalize upd H5 fo o2 = H6 at hd6 sx6 hq6
      have hlp := length_putE dd (redR [] (stp p l 1)) ((getE dd (redR [] (stp p l 1))).getD 0 + m)
      refine ⟨_, rfl, fo, rfl, ⟨_, hd6.rd⟩, _, rfl, qa, _, _, 0, rfl, hq6, hd6.rd, rfl, _, rfl, _, _, rfl, rfl, _, rfl, _, rfl, fo, qa, _, _, _, rfl, rfl, rfl, hq6, hd6, by omega, fun o3 hd7 => ?_⟩
      refine ⟨_, _, _, _, rfl, (sx5.trans sx6).trans sameX_upd, ?_⟩
      rw [hnext]
      exact hd7
    · obtain ⟨y2, y3, y4, y5, rfl, sx, hd⟩ := pv
      rw [List.take_length, ← endsD_eq] at hd
      have hlen := length_eSteps [] es []
      rw [← endsD_eq, List.length_nil] at hlen
      obtain ⟨kvs, ek, hek⟩ := _root_.id hd
      refine ⟨fo, _, ek, True.intro, fun od2 => ?_⟩
      have t6 : SameX fo H2 (upd H2 fo (.frz od2 (hoN P w fo kvs))) := sameX_upd
      have hf : FNo P w kcP (upd H2 fo (.frz od2 (hoN P w fo kvs))) fo od2 (endsD [] es) := ⟨kvs, upd_same, hek.keep (hd.stx t6)⟩
      have s6 : Same H (upd H2 fo (.frz od2 (hoN P w fo kvs))) := fun b u hb => by
        have hbf : b ≠ fo := ne_of_none hb nf
        exact (sx.trans t6) b u hbf (s1 b u hb)
      generalize upd H2 fo (.frz od2 (hoN P w fo kvs)) = H6 at hf s6
      refine ⟨_, rfl, fo, od2, _, rfl, hf, fun D nD => ?_⟩
      refine lc_gen walk_nitems ecE (endsD [] es) (fun e => if e.2 = 0 then none else some e) nD rfl (by omega) (fun H7 sm => hf.same sm) (fun i y H7 H8 e he sm yy N1 N0 k1 k0 => ?_) (fun H7 sm h7 => ?_)
      · obtain ⟨T1, k, m, a, he2, rfl, nT, rfl, ha⟩ := yy
        obtain rfl : e = (k, m) := Option.some.inj (he.symm.trans he2)
        have sT : Same H7 (upd H7 T1 (.tup [.ref a, .int m])) := same_new nT
        refine ⟨T1, _, rfl, .of upd_same, rfl, _, _, rfl, _, _, rfl, rfl, rfl, _, rfl, rfl, _, rfl, ?_⟩
        by_cases e0 : m = 0
        · exact iteN (neZ_no e0) (k0 _ (if_pos e0) sT)
        · refine iteY (neZ_yes e0) ⟨_, rfl, _, rfl, by show 2 ≤ sizeLine; decide, fun t nt => ?_⟩
          have sT2 := sT.trans (same_new (o := .tup [.ref a, .int m]) nt)
          exact k1 _ _ _ (if_neg e0) ⟨t, a, rfl, sT2 _ _ ha, upd_same⟩ sT2
      · have ef : (endsD [] es).filterMap (fun e => if e.2 = 0 then none else some e) = (endsD [] es).filter fun e => e.2 != 0 := by
          rw [← List.filterMap_eq_filter]
          refine fm_congr fun e _ => ?_
          by_cases h : e.2 = 0 <;> simp [h, Option.guard]
        rw [ef] at h7
        refine ⟨D, _, rfl, h7, by have := List.length_filter_le (fun e : Place × Int => e.2 != 0) (endsD [] es); omega, fun p o np hp => ?_⟩
        refine q _ p ((s6.trans sm).trans (same_new np)) ?_
        rw [ends, isort_eq eLe_anti eLe_total]
        exact hp
end
end K35
/-! text D15 -/
set_option Elab.async false
set_option linter.all false
set_option maxRecDepth 100000
set_option maxHeartbeats 4000000
/-! walks, 6 -/
namespace K35
open PySem PySem.Spec PyProof.Rows L2
section
variable {P : Program} {w : World} {K : PySem.W.Frag} {mg : Str → Option Value} {base : Heap} {f C CT : Addr} {fd : FuncData}
/-! moved -/
abbrev s_wmov : Stmt := inClass (top 36) 7
theorem sc_wmov : FnScope ["self", "counts", "place", "letter", "number"] ["self", "counts"] (defScope s_wmov) := ⟨rfl, rfl, rfl, by decide +kernel, rfl, by decide +kernel, by decide +kernel⟩
def sp_wmov (P : Program) (w : World) (CT C : Addr) : Sp := fun vs H Q _ => ∃ (x c ta n : Nat) (R : List Place) (es : WE) (d : Place), vs = [.ref x, .ref c] ∧ WkAt P w CT C H x ta n R es ∧ RowsOk n R ∧ KOk n es ∧ IT H c d ∧ d.length = n ∧ (R ≠ [] → ∀ s ∈ stS es, Bp (addP s.1 d)) ∧ es.length < sizeLine ∧
  ∀ H' a, Same H H' → WkAt P w CT C H' a ta n R (movedW R es d) → Q (.ref a) H'
theorem c_wmov {fK fW pW fP fS fI : Addr} {fdK fdW fdP fdS fdI : FuncData} (F : FnP K "moved" "Walk.moved" s_wmov f fd) (Tt : TabF K CT) (T : WalF K C) (gT : mg "Walk" = some (.ref C))
    (cW : Cal P w K mg base 1 ["self"] (getSp CT "own_width") fW fdW) (hW : PropOf K CT "width" pW fW) (cK : Cal P w K mg base 3 ["value", "width"] sp_check_counts fK fdK) (gK : mg "check_counts" = some (.ref fK))
    (cP : Cal P w K mg base 1 ["one", "other"] (sp_zip fun x y => x + y) fP fdP) (gP : mg "plus_tables" = some (.ref fP)) (cS : Cal P w K mg base 1 ["self"] (sp_wstr P w C) fS fdS) (mS : Meth K C "streets" fS)
    (M : Mk K C fI) (cI : FnOk P w K mg base CX0 3 fI fdI ["self", "table", "streets"] (sp_winit P w CT C)) (bI : Binds K fdI ["self", "table", "streets"] []) : Cal P w K mg base 5 ["self", "counts"] (sp_wmov P w CT C) f fd := by
  refine F.cal (F.ok sc_wmov (fun vs H Q E h => ?_) (fun cdv A outer s H vs Q E hr h => ?_)) (fun _ _ _ _ _ _ us hl => match us, hl with | [_, _], _ => rfl)
  · obtain ⟨x, c, ta, n, R, es, d, rfl, _⟩ := h
    rfl
  · obtain ⟨x, c, ta, n, R, es, d, rfl, hw, hR, hk, hc, hd, hB, hz, q⟩ := h
    have nd := sc_wmov.nd
    refine ⟨_, PSs.nox (pss_cons (ps_expr (pe_cal cK (hr.mono (by decide)) rfl gK (pa_cons (pv 1) (pa_cons (pe_pcal cW Tt.cl hW (hr.mono (by decide)) (pe_fld (pv 0) rfl)) pa_nil)))) (pss_one (ps_ret (pe_make M cI hr rfl gT bI .nil pass0 (pa_cons (pe_fld (pv 0) rfl) (pa_cons (pe_lc (own := [("place", 2), ("letter", 3), ("number", 4)]) (g := (gTup K 3 (gCons (gName 2) (gCons (gName 3) (gCons (gName 4) gNil))))) (tt := tYes) rfl nd (pi_list (pe_mcal0 cS T.cl mS (hr.mono (by decide)) (pv 0))) (blkOk_by (N := ["self", "counts", "place", "letter", "number"]) (sc := defScope s_wmov) (by decide +kernel)) (fun _ _ _ _ _ => (pg_tup rfl (pgs_cons (pg_name (i := 2) nd rfl (.inl rfl)) (pgs_cons (pg_name (i := 3) nd rfl (.inl rfl)) (pgs_cons (pg_name (i := 4) nd rfl (.inl rfl)) pgs_nil))))) (fun _ _ _ _ _ => pts_nil) (fun _ _ _ _ _ => (pe_tup (pa_cons (pe_cal cP (hr.mono (by decide)) rfl gP (pa_cons (pv 2) (pa_cons (pv 1) pa_nil))) (pa_cons (pv 3) (pa_cons (pv 4) pa_nil)))))) pa_nil)))))), ?_⟩
    have h3 : (3 : Nat) ≤ sizeLine := by decide
    have hn3 := hR.le
    obtain ⟨dx, kd, id, g1, g2, g3⟩ := hw.ins
    obtain ⟨dxT, nrT, ldT, idT, itT, szT, hT1, _⟩ := _root_.id g2
    refine ⟨_, rfl, _, rfl, x, C, dx, _, _, rfl, g1, T.cl, T.own_table, rfl, ta, dxT, _, rfl, hT1, ta, dxT, _, _, rfl, hT1, rfl, c, d, by rw [hd]; rfl, hc, by omega, fun H1 sm1 => ?_⟩
    have g11 := sm1 _ _ g1
    have g31 := g3.same sm1
    refine ⟨_, rfl, x, C, dx, _, _, rfl, g11, T.cl, T.own_table, rfl, ?_⟩
    refine ⟨_, rfl, x, dx, _, rfl, g11, rfl, x, dx, kd, _, es, rfl, g11, rfl, g31, by omega, fun H2 b sm2 hb => ?_⟩
    obtain ⟨vb, eb, ab⟩ := hb
    have hso := sok_stS hk
    have hsl := stS_len es
    refine ⟨b, rfl, ⟨_, .of eb⟩, fun D nD => ?_⟩
    have s2 := sm1.trans sm2
    refine lc_gen walk_list ecS (stS es) (fun s => some (addP s.1 d, s.2.1, s.2.2)) nD ab.length.symm (by rw [ab.length]; omega) (fun H3 sm => .of (sm _ _ eb)) (fun i y H3 H4 st hst sm yy N1 N0 k1 k0 => ?_) (fun H3 sm3 h3' => ?_)
    · obtain ⟨rfl, e⟩ := yy
      obtain ⟨t, qa, rfl, hq, ht⟩ := LsE.walk ab (Same.tups sm) e hst
      obtain ⟨l1, l2⟩ := hso st (List.mem_of_getElem? hst)
      refine ⟨t, _, rfl, .of ht, rfl, _, _, rfl, _, _, rfl, _, _, rfl, rfl, rfl, ?_⟩
      refine ⟨_, rfl, _, rfl, qa, c, st.1, d, rfl, hq, sm _ _ (s2 _ _ hc), by omega, fun H5 e5 sm5 he5 => ?_⟩
      refine ⟨_, rfl, _, rfl, by show 3 ≤ sizeLine; omega, fun t2 nt2 => ?_⟩
      have sT := sm5.trans (same_new (o := .tup [.ref e5, .int (st.2.1 : Int), .int st.2.2]) nt2)
      exact k1 _ _ _ rfl ⟨t2, e5, rfl, same_new nt2 _ _ he5, upd_same⟩ sT
    · rw [fm_some] at h3'
      have s3 := s2.trans sm3
      refine rd_walk (g2.same s3) hR h3' (fun s hs => ?_) (fun h s hs => ?_) (by rw [List.length_map]; omega) fun H5 a sm5 hw5 => q _ a (s3.trans sm5) hw5
      · obtain ⟨st, hst, rfl⟩ := List.mem_map.mp hs
        obtain ⟨l1, l2⟩ := hso st hst
        exact ⟨by rw [addP_len _ _ (by omega)]; exact l1, l2⟩
      · obtain ⟨st, hst, rfl⟩ := List.mem_map.mp hs
        exact hB h st hst
/-! times -/
abbrev s_wtim : Stmt := inClass (top 36) 8
theorem sc_wtim : FnScope ["self", "count", "place", "letter", "number"] ["self", "count"] (defScope s_wtim) := ⟨rfl, rfl, rfl, by decide +kernel, rfl, by decide +kernel, by decide +kernel⟩
def sp_wtim (P : Program) (w : World) (CT C : Addr) : Sp := fun vs H Q _ => ∃ (x ta n : Nat) (es : WE), vs = [.ref x, .int (-1)] ∧ WkAt P w CT C H x ta n [] es ∧ 1 ≤ n ∧ n ≤ 3 ∧ KOk n es ∧ es.length < sizeLine ∧
  ∀ H' a, Same H H' → WkAt P w CT C H' a ta n [] (timesW [] es (-1)) → Q (.ref a) H'
theorem c_wtim {fS fI : Addr} {fdS fdI : FuncData} (F : FnP K "times" "Walk.times" s_wtim f fd) (T : WalF K C) (gT : mg "Walk" = some (.ref C)) (cS : Cal P w K mg base 1 ["self"] (sp_wstr P w C) fS fdS) (mS : Meth K C "streets" fS)
    (M : Mk K C fI) (cI : FnOk P w K mg base CX0 3 fI fdI ["self", "table", "streets"] (sp_winit P w CT C)) (bI : Binds K fdI ["self", "table", "streets"] []) : Cal P w K mg base 5 ["self", "count"] (sp_wtim P w CT C) f fd := by
  refine F.cal (F.ok sc_wtim (fun vs H Q E h => ?_) (fun cdv A outer s H vs Q E hr h => ?_)) (fun _ _ _ _ _ _ us hl => match us, hl with | [_, _], _ => rfl)
  · obtain ⟨x, ta, n, es, rfl, _⟩ := h
    rfl
  · obtain ⟨x, ta, n, es, rfl, hw, hn1, hn3, hk, hz, q⟩ := h
    have nd := sc_wtim.nd
    refine ⟨_, PSs.nox (pss_one (ps_ret (pe_make M cI hr rfl gT bI .nil pass0 (pa_cons (pe_fld (pv 0) rfl) (pa_cons (pe_lc (own := [("place", 2), ("letter", 3), ("number", 4)]) (g := (gTup K 3 (gCons (gName 2) (gCons (gName 3) (gCons (gName 4) gNil))))) (tt := tYes) rfl nd (pi_list (pe_mcal0 cS T.cl mS (hr.mono (by decide)) (pv 0))) (blkOk_by (N := ["self", "count", "place", "letter", "number"]) (sc := defScope s_wtim) (by decide +kernel)) (fun _ _ _ _ _ => (pg_tup rfl (pgs_cons (pg_name (i := 2) nd rfl (.inl rfl)) (pgs_cons (pg_name (i := 3) nd rfl (.inl rfl)) (pgs_cons (pg_name (i := 4) nd rfl (.inl rfl)) pgs_nil))))) (fun _ _ _ _ _ => pts_nil) (fun _ _ _ _ _ => (pe_tup (pa_cons (pv 2) (pa_cons (pv 3) (pa_cons (pe_op op_mul (pv 1) (pv 4)) pa_nil)))))) pa_nil))))), ?_⟩
    have h3 : (3 : Nat) ≤ sizeLine := by decide
    obtain ⟨dx, kd, id, g1, g2, g3⟩ := hw.ins
    refine ⟨_, rfl, x, C, dx, _, _, rfl, g1, T.cl, T.own_table, rfl, ?_⟩
    refine ⟨_, rfl, x, dx, _, rfl, g1, rfl, x, dx, kd, _, es, rfl, g1, rfl, g3, by omega, fun H2 b sm2 hb => ?_⟩
    obtain ⟨vb, eb, ab⟩ := hb
    have hso := sok_stS hk
    have hsl := stS_len es
    refine ⟨b, rfl, ⟨_, .of eb⟩, fun D nD => ?_⟩
    refine lc_gen walk_list ecS (stS es) (fun s => some (s.1, s.2.1, (-1) * s.2.2)) nD ab.length.symm (by rw [ab.length]; omega) (fun H3 sm => .of (sm _ _ eb)) (fun i y H3 H4 st hst sm yy N1 N0 k1 k0 => ?_) (fun H3 sm3 h3' => ?_)
    · obtain ⟨rfl, e⟩ := yy
      obtain ⟨t, qa, rfl, hq, ht⟩ := LsE.walk ab (Same.tups sm) e hst
      refine ⟨t, _, rfl, .of ht, rfl, _, _, rfl, _, _, rfl, _, _, rfl, rfl, rfl, ?_⟩
      refine ⟨_, rfl, _, rfl, _, rfl, _, rfl, _, _, rfl, rfl, .inl ⟨by decide, by decide⟩, by show 3 ≤ sizeLine; omega, fun t2 nt2 => ?_⟩
      have sT := same_new (o := .tup [.ref qa, .int (st.2.1 : Int), .int (-1 * st.2.2)]) nt2
      exact k1 _ _ _ rfl ⟨t2, qa, rfl, sT _ _ hq, upd_same⟩ sT
    · rw [fm_some] at h3'
      have s3 := sm2.trans sm3
      refine rd_walk (g2.same s3) ⟨by decide, (fun r hr => nomatch hr), hn1, hn3⟩ h3' (fun s hs => ?_) (fun h => absurd rfl h) (by rw [List.length_map]; omega) fun H5 a sm5 hw5 => q _ a (s3.trans sm5) hw5
      obtain ⟨st, hst, rfl⟩ := List.mem_map.mp hs
      exact hso st hst
/-! minus -/
abbrev s_wmin : Stmt := inClass (top 36) 10
theorem sc_wmin : FnScope ["self", "other"] ["self", "other"] (defScope s_wmin) := ⟨rfl, rfl, rfl, by decide +kernel, rfl, by decide +kernel, by decide +kernel⟩
def sp_wmin (P : Program) (w : World) (CT C : Addr) : Sp := fun vs H Q _ => ∃ (x y ta tb n : Nat) (es fs : WE), vs = [.ref x, .ref y] ∧ WkAt P w CT C H x ta n [] es ∧ WkAt P w CT C H y tb n [] fs ∧ 1 ≤ n ∧ n ≤ 3 ∧ KOk n es ∧ KOk n fs ∧ es.length + fs.length < sizeLine ∧
  ∀ H' a, Same H H' → WkAt P w CT C H' a ta n [] (minusW [] es fs) → Q (.ref a) H'
theorem mkW_len2 (es : WE) (k : Int) : (timesW [] es k).length ≤ es.length := by
  unfold timesW
  have := mkW_len [] ((stS es).map fun s => (s.1, s.2.1, k * s.2.2))
  rw [List.length_map, stS_len] at this
  exact this
theorem rok0 {n : Nat} (h1 : 1 ≤ n) (h3 : n ≤ 3) : RowsOk n [] := ⟨by decide, (fun r hr => nomatch hr), h1, h3⟩
theorem kok_times {n : Nat} (h1 : 1 ≤ n) (h3 : n ≤ 3) {es : WE} (h : KOk n es) (k : Int) : KOk n (timesW [] es k) := by
  refine kok_mkW (rok0 h1 h3) fun s hs => ?_
  obtain ⟨st, hst, rfl⟩ := List.mem_map.mp hs
  exact sok_stS h st hst
theorem c_wmin {fS fE fM fI : Addr} {fdS fdE fdM fdI : FuncData} (F : FnP K "minus" "Walk.minus" s_wmin f fd) (T : WalF K C) (gT : mg "Walk" = some (.ref C)) (cS : Cal P w K mg base 1 ["self"] (sp_wstr P w C) fS fdS) (mS : Meth K C "streets" fS)
    (eC : EqC K CT fE) (cE : Cal P w K mg base 1 ["self", "other"] (sp_teq CT) fE fdE) (cM : Cal P w K mg base 5 ["self", "count"] (sp_wtim P w CT C) fM fdM) (mM : Meth K C "times" fM)
    (M : Mk K C fI) (cI : FnOk P w K mg base CX0 3 fI fdI ["self", "table", "streets"] (sp_winit P w CT C)) (bI : Binds K fdI ["self", "table", "streets"] []) : Cal P w K mg base 6 ["self", "other"] (sp_wmin P w CT C) f fd := by
  refine F.cal (F.ok sc_wmin (fun vs H Q E h => ?_) (fun cdv A outer s H vs Q E hr h => ?_)) (fun _ _ _ _ _ _ us hl => match us, hl with | [_, _], _ => rfl)
  · obtain ⟨x, y, ta, tb, n, es, fs, rfl, _⟩ := h
    rfl
  · obtain ⟨x, y, ta, tb, n, es, fs, rfl, hw, hv, hn1, hn3, hk, hl, hz, q⟩ := h
    have nd := sc_wmin.nd
    refine ⟨_, PSs.nox (pss_cons (ps_if (pt_cmpR (op_neC eC cE.F (hr.mono (by decide)) cE.b pass0) (pe_fld (pv 0) rfl) (pe_fld (pv 1) rfl) (nomark _)) (pss_one ps_never) pss_nil) (pss_one (ps_ret (pe_make M cI (hr.mono (by decide)) rfl gT bI .nil pass0 (pa_cons (pe_fld (pv 0) rfl) (pa_cons (pe_op op_cat (pe_mcal0 cS T.cl mS (hr.mono (by decide)) (pv 0)) (pe_mcal0 cS T.cl mS (hr.mono (by decide)) (pe_mcal cM T.cl mM hr (pv 1) (pa_cons (pe_un un_neg pe_int) pa_nil)))) pa_nil)))))), ?_⟩
    obtain ⟨dx, kd, id, g1, g2, g3⟩ := hw.ins
    obtain ⟨dy, ld, jd, i1, i2, i3⟩ := hv.ins
    obtain ⟨dxT, nrT, ldT, idT, itT, szT, hT1, _⟩ := _root_.id g2
    obtain ⟨dyT, nyT, lyT, iyT, jyT, syT, hY1, _⟩ := _root_.id i2
    refine ⟨_, rfl, x, C, dx, _, _, rfl, g1, T.cl, T.own_table, rfl, _, rfl, y, C, dy, _, _, rfl, i1, T.cl, T.own_table, rfl, ta, tb, rfl, rfl, ⟨_, _, hT1⟩, ⟨_, _, hY1⟩, ta, tb, n, n, [], [], rfl, g2, i2, true, by simp, _, rfl, ?_⟩
    refine iteN rfl ?_
    refine ⟨_, rfl, x, C, dx, _, _, rfl, g1, T.cl, T.own_table, rfl, ?_⟩
    refine ⟨_, rfl, x, dx, _, rfl, g1, rfl, x, dx, kd, _, es, rfl, g1, rfl, g3, by omega, fun H2 b sm2 hb => ?_⟩
    refine ⟨_, rfl, y, dy, _, rfl, sm2 _ _ i1, rfl, _, rfl, y, tb, n, fs, rfl, hv.same sm2, hn1, hn3, hl, by omega, fun H3 z sm3 hz3 => ?_⟩
    obtain ⟨dz, zd, kz, j1, j2, j3⟩ := hz3.ins
    have hlt := mkW_len2 fs (-1)
    refine ⟨z, dz, _, rfl, j1, rfl, z, dz, zd, _, _, rfl, j1, rfl, j3, by omega, fun H4 c sm4 hc => ?_⟩
    obtain ⟨vb, eb, ab⟩ := hb.same (sm3.trans sm4)
    obtain ⟨vc, ec, ac⟩ := hc
    have hsl := stS_len es
    have hsl2 := stS_len (timesW [] fs (-1))
    refine ⟨b, c, vb, vc, rfl, rfl, eb, ec, by rw [ab.length, ac.length]; omega, fun l nl => ?_⟩
    have s5 : Same H4 (upd H4 l (.lst (vb ++ vc))) := same_new nl
    have s4 := sm2.trans (sm3.trans (sm4.trans s5))
    have app : ∀ {vs ws : List V} {ls ms : List St3} {H : Hp}, ecS.all H vs ls → ecS.all H ws ms → ecS.all H (vs ++ ws) (ls ++ ms) := by
      intro vs ws ls ms H h1 h2
      induction h1 with
      | nil => exact h2
      | cons a t ih => exact .cons a ih
    have hls : LsE ecS (upd H4 l (.lst (vb ++ vc))) l (stS es ++ stS (timesW [] fs (-1))) := ⟨_, upd_same, ecS.allKeep (Same.tups s5) (app ab ac)⟩
    refine rd_walk (g2.same s4) (rok0 hn1 hn3) hls (fun s hs => ?_) (fun h => absurd rfl h) (by rw [List.length_append]; omega) fun H5 a sm5 hw5 => q _ a (s4.trans sm5) hw5
    rcases List.mem_append.mp hs with hs | hs
    · exact sok_stS hk s hs
    · exact sok_stS (kok_times hn1 hn3 hl (-1)) s hs
end
end K35
/-! text D16 -/
set_option Elab.async false
set_option linter.all false
set_option maxRecDepth 100000
set_option maxHeartbeats 4000000
/-! free, rolled, end_of -/
namespace K35
open PySem PySem.Spec PyProof.Rows L2
/-- the numbers of a place lie within B -/
def Bq (B : Nat) (p : Place) : Prop := ∀ x ∈ p, x.natAbs ≤ B
theorem Bq.bp {B : Nat} {p : Place} (h : Bq B p) (hB : B < 2 ^ 29) : Bp p := fun x hx => by
  have := h x hx
  omega
theorem Bq.mono {B B' : Nat} {p : Place} (h : Bq B p) (hB : B ≤ B') : Bq B' p := fun x hx => Nat.le_trans (h x hx) hB
theorem bq_zero (n : Nat) : Bq 0 (zeroP n) := fun x hx => by
  rw [List.eq_of_mem_replicate hx]
  decide
theorem bq_stp {B : Nat} {p : Place} (h : Bq B p) (i : Nat) {d : Int} (hd : d.natAbs ≤ 1) : Bq (B + 1) (stp p i d) := fun x hx => by
  unfold stp at hx
  rcases List.mem_append.mp hx with hx | hx
  · exact Nat.le_succ_of_le (h x (List.mem_of_mem_take hx))
  · rcases List.mem_cons.mp hx with rfl | hx
    · have : (p.getD i 0).natAbs ≤ B := by
        rw [List.getD_eq_getElem?_getD]
        cases e : p[i]? with
        | none => exact Nat.zero_le _
        | some y => exact h y (List.mem_of_getElem? e)
      omega
    · exact Nat.le_succ_of_le (h x (List.mem_of_mem_drop hx))
theorem streets_bd : ∀ (v : Wd) (B : Nat) (p : Place), Bq B p → ∀ s ∈ streetsOf p v, Bq (B + v.length) s.1
  | [], _, _, _ => fun s hs => nomatch hs
  | g :: v, B, p, h => by
    have h1 := bq_stp h g.1 (d := 1) (by decide)
    have h2 := bq_stp h g.1 (d := -1) (by decide)
    unfold streetsOf
    intro s hs
    rw [List.length_cons]
    split at hs
    · rcases List.mem_cons.mp hs with rfl | hs
      · exact h.mono (by omega)
      · exact (streets_bd v (B + 1) _ h1 s hs).mono (by omega)
    · rcases List.mem_cons.mp hs with rfl | hs
      · exact h2.mono (by omega)
      · exact (streets_bd v (B + 1) _ h2 s hs).mono (by omega)
theorem counts_bd (n : Nat) (v : Wd) : Bq v.length (counts n v) := fun x hx => by
  unfold counts at hx
  obtain ⟨i, _, rfl⟩ := List.mem_map.mp hx
  have h1 := List.count_le_length (a := (i, true)) (l := v)
  have h2 := List.count_le_length (a := (i, false)) (l := v)
  omega
theorem counts_len (n : Nat) (v : Wd) : (counts n v).length = n := by simp [counts]
theorem mul_bd {B : Nat} {p : Place} (h : Bq B p) : Bq B (mulP (-1) p) := fun x hx => by
  unfold mulP at hx
  obtain ⟨y, hy, rfl⟩ := List.mem_map.mp hx
  have := h y hy
  omega
theorem nrm1_bd {B : Nat} {p : Place} (h : Bq B p) : Bq B (nrm1 p) := by
  unfold nrm1
  split
  · exact h
  · exact mul_bd h
theorem rok_nrm {n B : Nat} {c : Place} (hc : c.length = n) (hB : Bq B c) (hB2 : B < 2 ^ 29) (h1 : 1 ≤ n) (h3 : n ≤ 3) : RowsOk n (nrmR c) := by
  rw [← nrmRs_one]
  refine ⟨nrmRs_len _, fun r hr => ?_, h1, h3⟩
  obtain ⟨hz, c', hc', rfl⟩ := nrmRs_mem hr
  rw [List.mem_singleton.mp hc'] at hz ⊢
  exact ⟨by rw [nrm1_len]; exact hc, hz, (nrm1_bd hB).bp hB2⟩
section
variable {P : Program} {w : World} {K : PySem.W.Frag} {mg : Str → Option Value} {base : Heap} {f C CT : Addr} {fd : FuncData}
/-- what Table(..) asks -/
theorem rd_table {H : Hp} {r : Addr} {n : Nat} {R : List Place} {Q : VK} (hr : (R = [] ∧ ∀ H, SqT K H r []) ∨ LsE ecP H r R) (h1 : R.length ≤ 1) (hR : ∀ c ∈ R, c.length = n ∧ Bp c) (hn1 : 1 ≤ n) (hn3 : n ≤ 3)
    (q : ∀ H' a, Same H H' → TabAt CT H' a n (nrmRs R) → Q (.ref a) H') :
    ∀ x dx, H x = none → H dx = none → dx ≠ x → sp_tinit K CT [.ref x, .int (n : Int), .ref r] (upd (upd H dx (.own x)) x (.ins CT dx [])) (fun v H2 => v = .non ∧ Q (.ref x) H2) E0 := by
  intro x dx nx ndx ne
  have s := made_to (C := CT) nx ndx
  refine ⟨x, dx, r, n, R, rfl, ?_, h1, hR, hn1, hn3, upd_same, fun H' sx hw => ⟨rfl, q _ _ (made_same nx ndx sx) hw⟩⟩
  rcases hr with ⟨e, h⟩ | h
  · exact .inl ⟨e, h _⟩
  · exact .inr (h.same s)
abbrev s_free : Stmt := top 40
theorem sc_free : FnScope ["letters"] ["letters"] (defScope s_free) := ⟨rfl, rfl, rfl, by decide +kernel, rfl, by decide +kernel, by decide +kernel⟩
def sp_free (CT : Addr) : Sp := fun vs H Q _ => ∃ (L : List Nat), LG L ∧ vs = [.str (lt L)] ∧ ∀ H' a, Same H H' → TabAt CT H' a L.length [] → Q (.ref a) H'
theorem c_free {fI t0 : Addr} {fdI : FuncData} {ds : List Value} (F : FnP K "free" "free" s_free f fd) (B : Fre mg) (gT : mg "Table" = some (.ref CT)) (M : Mk K CT fI) (cI : FnOk P w K mg base CX0 3 fI fdI ["self", "width", "rows"] (sp_tinit K CT)) (bI : Binds K fdI ["self", "width", "rows"] ds) (vI : Vals [.ref t0] ds) (h0 : ∀ H, SqT K H t0 []) :
    Cal P w K mg base 5 ["letters"] (sp_free CT) f fd := by
  refine F.cal (F.ok sc_free (fun vs H Q E h => ?_) (fun cdv A outer s H vs Q E hr h => ?_)) (fun _ _ _ _ _ _ us hl => match us, hl with | [_], _ => rfl)
  · obtain ⟨L, lg, rfl, _⟩ := h
    rfl
  · obtain ⟨L, lg, rfl, q⟩ := h
    refine ⟨_, PSs.nox (pss_one (ps_ret (pe_make M cI (hr.mono (by decide)) rfl gT bI vI pass0 (pa_cons (pe_callB call_len_str (by rfl) B.len PySem.boot_len (pa_cons (pv 0) pa_nil)) pa_nil)))), ?_⟩
    have hltl : (lt L).length = L.length := lt_size L
    refine ⟨_, rfl, _, rfl, by rw [hltl]; exact lg.len_le, ?_⟩
    rw [hltl]
    exact rd_table (R := []) (.inl ⟨rfl, h0⟩) (by decide) (fun c hc => nomatch hc) lg.pos lg.le fun H' a sm h => q _ _ sm h
abbrev s_rolled : Stmt := top 41
theorem sc_rolled : FnScope ["letters", "word"] ["letters", "word"] (defScope s_rolled) := ⟨rfl, rfl, rfl, by decide +kernel, rfl, by decide +kernel, by decide +kernel⟩
def sp_rolled (P : Program) (w : World) (CT C : Addr) : Sp := fun vs H Q _ => ∃ (L : List Nat) (v : Wd), LG L ∧ WF L.length v ∧ v.length ≤ 1000 ∧ vs = [.str (lt L), .str (wd L v)] ∧ ∀ H' a ta, Same H H' → WkAt P w CT C H' a ta L.length (nrmR (counts L.length v)) (rolledW L.length v) → Q (.ref a) H'
theorem c_rolled {fCW fO fI fN : Addr} {fdO fdI fdN : FuncData} {pO : Addr} {mc : Value} {ds : List Value} (F : FnP K "rolled" "rolled" s_rolled f fd) (B : Fre mg) (gT : mg "Table" = some (.ref CT)) (gW : mg "Walk" = some (.ref C)) (M : Mk K CT fI) (cI : FnOk P w K mg base CX0 3 fI fdI ["self", "width", "rows"] (sp_tinit K CT)) (bI : Binds K fdI ["self", "width", "rows"] [])
    (cCW : FnR P w K mg base CX0 2 fCW sp_check_words) (kCW : PySem.W.keepIn K (.ref fCW) = true) (gCW : mg "check_words" = some (.ref fCW)) (cN : Cal P w K mg base 2 ["word", "letters"] sp_counts_of fN fdN) (gN : mg "counts_of" = some (.ref fN))
    (rO : ClX.CRead K C mc) (mO : ClX.CMet K C mc "of" pO fO) (cO : FnOk P w K mg base CX0 5 fO fdO ["cls", "table", "word", "letters", "start"] (sp_wof P w CT C)) (bO : Binds K fdO ["cls", "table", "word", "letters", "start"] ds) (vO : Vals [.non] ds) :
    Cal P w K mg base 6 ["letters", "word"] (sp_rolled P w CT C) f fd := by
  refine F.cal (F.ok sc_rolled (fun vs H Q E h => ?_) (fun cdv A outer s H vs Q E hr h => ?_)) (fun _ _ _ _ _ _ us hl => match us, hl with | [_, _], _ => rfl)
  · obtain ⟨L, v, _, _, _, rfl, _⟩ := h
    rfl
  · obtain ⟨L, v, lg, hv, hz, rfl, q⟩ := h
    have nd := sc_rolled.nd
    refine ⟨_, PSs.nox (pss_cons (ps_expr (pe_calR cCW kCW (hr.mono (by decide)) rfl gCW (pa_cons (pv 0) (pa_cons (pv 1) pa_nil)))) (pss_one (ps_ret (ClX.pe_cmeth (pe_glob (v := .ref C) rfl gW rfl) rO mO (cO.raw bO vO) hr pass0 (pa_cons (pe_make M cI (hr.mono (by decide)) rfl gT bI .nil pass0 (pa_cons (pe_callB call_len_str (by rfl) B.len PySem.boot_len (pa_cons (pv 0) pa_nil)) (pa_cons (pe_lst (pa_cons (pe_cal cN (hr.mono (by decide)) rfl gN (pa_cons (pv 1) (pa_cons (pv 0) pa_nil))) pa_nil)) pa_nil))) (pa_cons (pv 1) (pa_cons (pv 0) pa_nil))))))), ?_⟩
    have hs1 : (1000 : Nat) < sizeLine := by decide
    have hltl : (lt L).length = L.length := lt_size L
    refine ⟨_, rfl, _, rfl, L, [v], lg, fun y hy => by rw [List.mem_singleton.mp hy]; exact ⟨hv, by omega⟩, by show 1 ≤ 2; decide, rfl, fun H1 sm1 => ?_⟩
    refine ⟨rfl, ?_⟩
    refine ⟨_, rfl, _, rfl, by rw [hltl]; exact lg.len_le, ?_⟩
    refine ⟨_, rfl, _, rfl, L, v, lg, hv, rfl, fun H2 c sm2 hc => ⟨by show 1 ≤ sizeLine; omega, fun l nl => ?_⟩⟩
    rw [hltl]
    have hbc := counts_bd L.length v
    have sl : Same H2 (upd H2 l (.lst [.ref c])) := same_new nl
    have hl0 : LsE ecP (upd H2 l (.lst [.ref c])) l [counts L.length v] := ⟨_, upd_same, .cons ⟨c, rfl, sl _ _ hc⟩ .nil⟩
    refine fun x dx nx ndx ne => ⟨x, dx, l, L.length, [counts L.length v], rfl, .inr (hl0.same (made_to nx ndx)), by show 1 ≤ 1; decide, fun c hc => by rw [List.mem_singleton.mp hc]; exact ⟨counts_len _ _, hbc.bp (by omega)⟩, lg.pos, lg.le, upd_same, fun H3 sx hta => ⟨rfl, ?_⟩⟩
    have sm3 := made_same nx ndx sx
    rw [nrmRs_one] at hta
    refine ⟨_, rfl, _, rfl, x, L, v, .non, nrmR (counts L.length v), zeroP L.length, rfl, lg, hv, by omega, hta, rok_nrm (counts_len _ _) hbc (by omega) lg.pos lg.le, by simp [zeroP], .inl ⟨rfl, rfl⟩, fun _ s hs => ?_, fun H4 a sm4 hw => q _ a x (sm1.trans (sm2.trans (sl.trans (sm3.trans sm4)))) hw⟩
    exact (streets_bd v 0 _ (bq_zero _) s hs).bp (by omega)
end
end K35
/-! text D17 -/
set_option Elab.async false
set_option linter.all false
set_option maxRecDepth 100000
set_option maxHeartbeats 4000000
/-! end_of, word_of -/
namespace K35
open PySem PySem.Spec PyProof.Rows L2
theorem eqv_E (a b : Place × Int) : PyData.eqv (ecE.dat a) (ecE.dat b) = decide (a = b) := by
  obtain ⟨p, n⟩ := a
  obtain ⟨q, m⟩ := b
  simp only [ecE]
  rw [PyData.eqv, PyData.eqvAll, PyData.eqvAll, PyData.eqvAll, PyData.eqv, PyData.eqv, eqv_ints]
  by_cases h1 : p = q <;> by_cases h3 : n = m <;> simp [h1, h3]
theorem any_E (l : List (Place × Int)) (a : Place × Int) : ((l.map ecE.dat).any fun z => PyData.eqv z (ecE.dat a)) = decide (a ∈ l) := by
  induction l with
  | nil => simp
  | cons b l ih =>
    rw [List.map_cons, List.any_cons, ih, eqv_E]
    by_cases h1 : b = a
    · simp [h1]
    · have h2 : ¬ a = b := fun q => h1 q.symm
      simp [h1, h2]
theorem shp_E (a : Place × Int) : SeqAt.shaped (ecE.dat a) = true := by
  have h1 := can_E a
  have h2 := dep_E a
  unfold SeqAt.shaped
  rw [h1, decide_eq_true (by omega)]
  rfl
def goalsOf (e : List (Place × Int)) : List Place := (e.filter fun x => x.2 == 1).map (·.1)
theorem endOf_eq (n : Nat) (R : List Place) (es : WE) : endOf n R es = if ends R es = [] then some (zeroP n) else if (ends R es).length = 2 ∧ (zeroP n, -1) ∈ ends R es ∧ (goalsOf (ends R es)).length = 1 then some ((goalsOf (ends R es)).headD []) else none := rfl
theorem goals_fm : ∀ e : List (Place × Int), e.filterMap (fun s => if s.2 = 1 then some s.1 else none) = goalsOf e
  | [] => rfl
  | a :: l => by
    have ih := goals_fm l
    unfold goalsOf at ih ⊢
    rw [fm_cons, List.filter_cons, ih]
    by_cases h : a.2 = 1
    · rw [if_pos h, if_pos (by rw [h]; rfl)]
      rfl
    · rw [if_neg h, if_neg (by simpa using h)]
theorem Room.u65 {k : Nat} {A : Around} (r : L2.Room k A) : A.units + 65 < cLine := by have := r.un; omega
section
variable {P : Program} {w : World} {K : PySem.W.Frag} {mg : Str → Option Value} {base : Heap} {f C CT : Addr} {fd : FuncData}
abbrev s_end_of : Stmt := top 42
theorem sc_end_of : FnScope ["walk", "zero", "ends", "goals", "place", "number"] ["walk"] (defScope s_end_of) := ⟨rfl, rfl, rfl, by decide +kernel, rfl, by decide +kernel, by decide +kernel⟩
def sp_end_of (P : Program) (w : World) (CT C : Addr) : Sp := fun vs H Q _ => ∃ (x ta n : Nat) (es : WE), vs = [.ref x] ∧ WkAt P w CT C H x ta n [] es ∧ 1 ≤ n ∧ n ≤ 3 ∧ KOk n es ∧ 2 * es.length < sizeLine ∧
  (endOf n [] es = none → ∀ H', Same H H' → Q .non H') ∧ ∀ p, endOf n [] es = some p → ∀ H' c, Same H H' → IT H' c p → Q (.ref c) H'
theorem c_end_of {fW fT fE pW pT : Addr} {fdW fdT fdE : FuncData} (F : FnP K "end_of" "end_of" s_end_of f fd) (B : Fre mg) (Tt : TabF K CT) (T : WalF K C) (cW : Cal P w K mg base 1 ["self"] (getSp CT "own_width") fW fdW) (hW : PropOf K CT "width" pW fW)
    (cT : Cal P w K mg base 1 ["self"] (getSp C "own_table") fT fdT) (hT : PropOf K C "table" pT fT) (cE : Cal P w K mg base 3 ["self"] (sp_wends P w CT C) fE fdE) (mE : Meth K C "ends" fE) : Cal P w K mg base 4 ["walk"] (sp_end_of P w CT C) f fd := by
  refine F.cal (F.ok sc_end_of (fun vs H Q E h => ?_) (fun cdv A outer s H vs Q E hr h => ?_)) (fun _ _ _ _ _ _ us hl => match us, hl with | [_], _ => rfl)
  · obtain ⟨x, ta, n, es, rfl, _⟩ := h
    rfl
  · obtain ⟨x, ta, n, es, rfl, hw, hn1, hn3, hk, hz, q1, q2⟩ := h
    have nd := sc_end_of.nd
    refine ⟨_, PSs.nox (pss_cons (ps_par (i := 1) (j := 2) rfl nd rfl rfl (by decide) rfl rfl (pa_cons (pe_op op_repZ (pe_tup (pa_cons pe_int pa_nil)) (pe_pcal cW Tt.cl hW (hr.mono (by decide)) (pe_pcal cT T.cl hT (hr.mono (by decide)) (pv 0)))) (pa_cons (pe_mcal0 cE T.cl mE hr (pv 0)) pa_nil)) (by rfl)) (pss_cons (ps_if (pt_cmpR (op_eqD hr.units) (pv 2) (pe_lst pa_nil) (nomark _)) (pss_one (ps_ret (pv 1))) pss_nil) (pss_cons (ps_setLc (i := 3) (own := [("place", 4), ("number", 5)]) (g := (gTup K 2 (gCons (gName 4) (gCons (gName 5) gNil)))) rfl nd rfl rfl (sw_true rfl rfl rfl (by decide +kernel)) (pi_list (pv 2)) (blkOk_by (N := ["walk", "zero", "ends", "goals", "place", "number"]) (sc := defScope s_end_of) (by decide +kernel)) (fun _ _ _ _ _ => (pg_tup rfl (pgs_cons (pg_name (i := 4) nd rfl (.inl rfl)) (pgs_cons (pg_name (i := 5) nd rfl (.inl rfl)) pgs_nil)))) (fun _ _ _ _ _ => (pts_one (pt_cmpR op_eq (pv 5) pe_int (nomark _)))) (fun _ _ _ _ _ => (pv 4))) (pss_one (ps_ret (pe_ifExp (PW.pt (pw_and (pt_cmpR op_eq (pe_callB call_len_seq (by rfl) B.len PySem.boot_len (pa_cons (pv 2) pa_nil)) pe_int (nomark _)) (pw_and (pt_cmpR (op_inD (Room.u65 hr)) (pe_tup (pa_cons (pv 1) (pa_cons (pe_un un_neg pe_int) pa_nil))) (pv 2) rfl) (pw_and1 (pt_cmpR op_eq (pe_callB call_len_seq (by rfl) B.len PySem.boot_len (pa_cons (pv 3) pa_nil)) pe_int (nomark _)))))) (pe_ix ix_list (pv 3) pe_int (fun _ _ => rfl)) pe_non)))))), ?_⟩
    have h3 : (3 : Nat) ≤ sizeLine := by decide
    obtain ⟨dx, kd, id, g1, g2, g3⟩ := hw.ins
    obtain ⟨dxT, nrT, ldT, idT, itT, szT, hT1, _⟩ := _root_.id g2
    rw [endOf_eq] at q1 q2
    refine ⟨by show 1 ≤ sizeLine; omega, fun t nt => ?_⟩
    have st : Same H (upd H t (.tup [.int 0])) := same_new nt
    refine ⟨_, rfl, x, dx, _, rfl, st _ _ g1, x, dx, _, _, rfl, st _ _ g1, rfl, ta, dxT, _, rfl, st _ _ hT1, ta, dxT, _, _, rfl, st _ _ hT1, rfl, t, _, _, rfl, rfl, upd_same, by simp, by omega, by omega, by show 1 ≤ 1000; decide, fun z H1 sm1 hz1 => ?_⟩
    rw [Int.toNat_natCast, rep_zero] at hz1
    have s1 := st.trans sm1
    refine ⟨_, rfl, x, dx, _, rfl, s1 _ _ g1, rfl, x, ta, n, es, rfl, hw.same s1, hn1, hn3, hk, hz, fun H2 b sm2 hb => ?_⟩
    have s2 := s1.trans sm2
    have hz2 := sm2 _ _ hz1
    have hel : (ends [] es).length ≤ 2 * es.length := by
      unfold ends
      rw [(isort_perm _).length_eq]
      have h1 := List.length_filter_le (fun e : Place × Int => e.2 != 0) (endsD [] es)
      have h2 := length_eSteps [] es []
      rw [← endsD_eq, List.length_nil] at h2
      omega
    generalize ends [] es = e at hb q1 q2 hel
    refine ⟨_, _, rfl, ?_⟩
    refine ⟨_, rfl, Nat.zero_le _, fun em nem => ?_⟩
    have sE : Same H2 (upd H2 em (.lst [])) := same_new nem
    refine rd_eqNil (hb.same sE) (flat_E e) upd_same ⟨_, rfl, ?_⟩
    cases e with
    | nil =>
      refine iteY rfl ⟨_, rfl, ?_⟩
      exact q2 (zeroP n) (by rw [if_pos rfl]) _ z (s2.trans sE) (sE _ _ hz2)
    | cons e0 er =>
      rw [if_neg (by simp)] at q1
      refine iteN rfl ?_
      have hb3 := hb.same sE
      have hz3 := sE _ _ hz2
      have s3 := s2.trans sE
      generalize upd H2 em (.lst []) = H3 at hb3 hz3 s3
      clear hb sE hz2 s2
      generalize hee : e0 :: er = e at hb3 q1 q2 hel
      have hne : ¬ e = [] := by rw [← hee]; simp
      rw [if_neg hne] at q2
      obtain ⟨vb, eb, ab⟩ := hb3
      refine ⟨_, rfl, b, rfl, ⟨_, .of eb⟩, fun D nD => ?_⟩
      refine lc_gen walk_list ecP e (fun s => if s.2 = 1 then some s.1 else none) nD ab.length.symm (by rw [ab.length]; omega) (fun H4 sm => .of (sm _ _ eb)) (fun i y H4 H5 st hst sm yy N1 N0 k1 k0 => ?_) (fun H4 sm4 h4 => ?_)
      · obtain ⟨rfl, e⟩ := yy
        obtain ⟨t, qa, rfl, hq, ht⟩ := LsE.walk ab (Same.tups sm) e hst
        refine ⟨t, _, rfl, .of ht, rfl, _, _, rfl, _, _, rfl, rfl, rfl, _, rfl, rfl, _, rfl, ?_⟩
        by_cases e1 : st.2 = 1
        · exact iteY (by rw [e1]; rfl) ⟨_, rfl, k1 _ _ _ (if_pos e1) ⟨qa, rfl, hq⟩ (Same.refl _)⟩
        · exact iteN (decide_eq_false fun q => e1 (V.int.inj q)) (k0 _ (if_neg e1) (Same.refl _))
      · rw [goals_fm] at h4
        have hb4 : LsE ecE H4 b e := LsE.same ⟨vb, eb, ab⟩ sm4
        have hz4 := sm4 _ _ hz3
        have s4 := s3.trans sm4
        obtain ⟨vg, eg2, ag⟩ := h4
        obtain ⟨vb4, eb4, ab4⟩ := _root_.id hb4
        have fin : ∀ {H5 : Hp}, Same H4 H5 → ¬ (e.length = 2 ∧ (zeroP n, -1) ∈ e ∧ (goalsOf e).length = 1) → Q .non H5 := fun {H5} s5 h => q1 (by rw [if_neg h]) _ (s4.trans s5)
        refine ⟨_, rfl, b, _, rfl, .inl (.of eb4), rfl, _, rfl, ?_⟩
        have lb := ab4.length
        by_cases c1 : e.length = 2
        · refine iteY (by rw [lb, c1]; rfl) ?_
          refine ⟨_, rfl, _, rfl, by show 2 ≤ sizeLine; omega, fun t2 nt2 => ?_⟩
          have s5 : Same H4 (upd H4 t2 (.tup [.ref z, .int (-1)])) := same_new nt2
          refine ⟨_, rfl, ecE.dat (zeroP n, -1), _, ecE.dp ⟨t2, z, rfl, s5 _ _ hz4, upd_same⟩, (hb4.same s5).dp, shp_E _, (flat_E e).list, _, rfl, ?_⟩
          rw [any_E]
          by_cases c2 : (zeroP n, -1) ∈ e
          · refine iteY (decide_eq_true c2) ?_
            refine ⟨_, rfl, D, _, rfl, .inl (.of (s5 _ _ eg2)), rfl, _, rfl, ?_⟩
            have lg := ag.length
            by_cases c3 : (goalsOf e).length = 1
            · refine iteY (by rw [lg, c3]; rfl) ?_
              obtain ⟨g, hg⟩ : ∃ g, goalsOf e = [g] := by
                match goalsOf e, c3 with
                | [g], _ => exact ⟨g, rfl⟩
              rw [hg] at ag q2
              cases ag with
              | cons a1 a2 =>
                cases a2
                obtain ⟨ga, rfl, hga⟩ := a1
                refine ⟨_, rfl, D, _, 0, _, rfl, rfl, .of (s5 _ _ eg2), atI_nat (j := 0) rfl, ?_⟩
                exact q2 g (by rw [if_pos ⟨c1, c2, rfl⟩]; rfl) _ ga (s4.trans s5) (s5 _ _ hga)
            · refine iteN (decide_eq_false fun q => c3 (by have := V.int.inj q; omega)) ?_
              exact fin s5 fun q => c3 q.2.2
          · exact iteN (decide_eq_false c2) (fin s5 fun q => c2 q.2.1)
        · exact iteN (decide_eq_false fun q => c1 (by have := V.int.inj q; omega)) (fin (Same.refl _) fun q => c1 q.1)
end
end K35
/-! text D18 -/
set_option Elab.async false
set_option linter.all false
set_option maxRecDepth 100000
set_option maxHeartbeats 4000000
/-! word_of -/
namespace K35
open PySem PySem.Spec PyProof.Rows L2
theorem roadI_wf {n i : Nat} (h : i < n) (v : Int) : WF n (roadI i v) := by
  unfold roadI
  split
  · intro g hg
    rw [List.eq_of_mem_replicate hg]
    exact h
  · intro g hg
    rw [List.eq_of_mem_replicate hg]
    exact h
theorem WF.app {n : Nat} {v u : Wd} (h1 : WF n v) (h2 : WF n u) : WF n (v ++ u) := fun g hg => (List.mem_append.mp hg).elim (h1 g) (h2 g)
theorem roadFrom_wf {n : Nat} : ∀ (p : Place) (i : Nat), i + p.length ≤ n → WF n (roadFrom i p)
  | [], _, _ => fun g hg => nomatch hg
  | v :: p, i, h => by
    rw [List.length_cons] at h
    exact (roadI_wf (by omega) v).app (roadFrom_wf p (i + 1) (by omega))
theorem road_wf {n : Nat} {p : Place} (h : p.length = n) : WF n (road p) := roadFrom_wf p 0 (by omega)
theorem inv_wf {n : Nat} {v : Wd} (h : WF n v) : WF n (inv v) := fun g hg => by
  unfold inv at hg
  obtain ⟨k, hk, rfl⟩ := List.mem_map.mp hg
  exact h k (by simpa using hk)
theorem inv_len (v : Wd) : (inv v).length = v.length := by simp [inv]
theorem flat_wf {n : Nat} {l : List Wd} (h : ∀ v ∈ l, WF n v) : WF n l.flatten := fun g hg => by
  obtain ⟨v, hv, hg⟩ := List.mem_flatten.mp hg
  exact h v hv g hg
def part0 (s : St3) : Wd := road s.1 ++ [(s.2.1, true)] ++ inv (road (stp s.1 s.2.1 1))
theorem partOf_eq (s : St3) : partOf s = (List.replicate s.2.2.natAbs (if s.2.2 > 0 then part0 s else inv (part0 s))).flatten := rfl
theorem part0_wf {n : Nat} {s : St3} (h1 : s.1.length = n) (h2 : s.2.1 < n) : WF n (part0 s) := by
  refine WF.app (WF.app (road_wf h1) fun g hg => ?_) (inv_wf (road_wf (by rw [stp_len _ _ _ (by omega)]; exact h1)))
  rw [List.mem_singleton.mp hg]
  exact h2
theorem partOf_wf {n : Nat} {s : St3} (h1 : s.1.length = n) (h2 : s.2.1 < n) : WF n (partOf s) := by
  rw [partOf_eq]
  refine flat_wf fun v hv => ?_
  rw [List.eq_of_mem_replicate hv]
  split
  · exact part0_wf h1 h2
  · exact inv_wf (part0_wf h1 h2)
/-- what word_of needs of a street -/
structure PartOk (s : St3) : Prop where
  b1 : Bp s.1
  b2 : Bp (stp s.1 s.2.1 1)
  len : (part0 s).length ≤ 1000000
  num : s.2.2.natAbs ≤ 1000000
  all : (part0 s).length * s.2.2.natAbs ≤ sizeLine
section
variable {P : Program} {w : World} {K : PySem.W.Frag} {mg : Str → Option Value} {base : Heap} {f C CT : Addr} {fd : FuncData}
abbrev s_word_of : Stmt := top 43
theorem sc_word_of : FnScope ["letters", "walk", "end", "parts", "place", "letter", "number", "part"] ["letters", "walk"] (defScope s_word_of) := ⟨rfl, rfl, rfl, by decide +kernel, rfl, by decide +kernel, by decide +kernel⟩
def sp_word_of (P : Program) (w : World) (CT C : Addr) : Sp := fun vs H Q _ => ∃ (x ta : Nat) (L : List Nat) (es : WE) (e : Place), vs = [.str (lt L), .ref x] ∧ LG L ∧ WkAt P w CT C H x ta L.length [] es ∧ KOk L.length es ∧ 2 * es.length < sizeLine ∧ endOf L.length [] es = some e ∧ e.length = L.length ∧ Bp e ∧
  (∀ s ∈ stS es, PartOk s) ∧ (((stS es).map partOf).flatten ++ road e).length ≤ sizeLine ∧ ∀ H', Same H H' → Q (.str (wd L (wordOf es e))) H'
theorem mem_flat_len {l : List Wd} {v : Wd} (h : v ∈ l) : v.length ≤ l.flatten.length := by
  induction l with
  | nil => cases h
  | cons a l ih =>
    rw [List.flatten_cons, List.length_append]
    rcases List.mem_cons.mp h with rfl | h
    · omega
    · have := ih h
      omega
theorem c_word_of {fW fT fE fR fS fP fO fRd fSh pW pT : Addr} {fdW fdT fdE fdR fdS fdP fdO fdRd fdSh : FuncData} (F : FnP K "word_of" "word_of" s_word_of f fd) (B : Fre mg) (Tt : TabF K CT) (T : WalF K C) (cW : Cal P w K mg base 1 ["self"] (getSp CT "own_width") fW fdW) (hW : PropOf K CT "width" pW fW)
    (cT : Cal P w K mg base 1 ["self"] (getSp C "own_table") fT fdT) (hT : PropOf K C "table" pT fT) (cR : Cal P w K mg base 1 ["self"] (sp_trows CT) fR fdR) (mR : Meth K CT "rows" fR) (cE : Cal P w K mg base 4 ["walk"] (sp_end_of P w CT C) fE fdE) (gE : mg "end_of" = some (.ref fE))
    (cS : Cal P w K mg base 1 ["self"] (sp_wstr P w C) fS fdS) (mS : Meth K C "streets" fS) (cP : Cal P w K mg base 1 ["place", "letter", "way"] sp_stepped fP fdP) (gP : mg "stepped" = some (.ref fP)) (cO : Cal P w K mg base 2 ["word"] sp_opposite fO fdO) (gO : mg "opposite" = some (.ref fO))
    (cD : Cal P w K mg base 2 ["letters", "place"] sp_road fRd fdRd) (gD : mg "road" = some (.ref fRd)) (cH : Cal P w K mg base 2 ["word"] sp_shortened fSh fdSh) (gH : mg "shortened" = some (.ref fSh)) : Cal P w K mg base 5 ["letters", "walk"] (sp_word_of P w CT C) f fd := by
  refine F.cal (F.ok sc_word_of (fun vs H Q E h => ?_) (fun cdv A outer s H vs Q E hr h => ?_)) (fun _ _ _ _ _ _ us hl => match us, hl with | [_, _], _ => rfl)
  · obtain ⟨x, ta, L, es, e, rfl, _⟩ := h
    rfl
  · obtain ⟨x, ta, L, es, e, rfl, lg, hw, hk, hz, hend, hel, heb, hpart, hall, q⟩ := h
    have nd := sc_word_of.nd
    refine ⟨_, PSs.nox (pss_cons (ps_if (pt_cmpR op_ne (pe_callB call_len_str (by rfl) B.len PySem.boot_len (pa_cons (pv 0) pa_nil)) (pe_pcal cW Tt.cl hW (hr.mono (by decide)) (pe_pcal cT T.cl hT (hr.mono (by decide)) (pv 1))) (nomark _)) (pss_one ps_never) pss_nil) (pss_cons (ps_if (pt_cmpR (op_neD hr.units) (pe_mcal0 cR Tt.cl mR (hr.mono (by decide)) (pe_pcal cT T.cl hT (hr.mono (by decide)) (pv 1))) (pe_lst pa_nil) (nomark _)) (pss_one ps_never) pss_nil) (pss_cons (ps_set (i := 2) nd rfl (.inl rfl) (pe_cal cE hr rfl gE (pa_cons (pv 1) pa_nil))) (pss_cons (ps_if (pt_cmpR op_isN (pv 2) pe_non (nomark _)) (pss_one ps_never) pss_nil) (pss_cons (ps_set (i := 3) nd rfl (.inl rfl) (pe_lst pa_nil)) (pss_cons (ps_for PassesOwn.never rfl (pi_list (pe_mcal0 cS T.cl mS (hr.mono (by decide)) (pv 1))) (pg_tup rfl (pgs_cons (pg_name (i := 4) nd rfl (.inl rfl)) (pgs_cons (pg_name (i := 5) nd rfl (.inl rfl)) (pgs_cons (pg_name (i := 6) nd rfl (.inl rfl)) pgs_nil)))) (pss_cons (ps_set (i := 7) nd rfl (.inl rfl) (pe_op op_add_str (pe_op op_add_str (pe_cal cD (hr.mono (by decide)) rfl gD (pa_cons (pv 0) (pa_cons (pv 4) pa_nil))) (pe_ix ix_str (pv 0) (pv 5) (fun _ _ => rfl))) (pe_cal cO (hr.mono (by decide)) rfl gO (pa_cons (pe_cal cD (hr.mono (by decide)) rfl gD (pa_cons (pv 0) (pa_cons (pe_cal cP (hr.mono (by decide)) rfl gP (pa_cons (pv 4) (pa_cons (pv 5) (pa_cons pe_int pa_nil)))) pa_nil))) pa_nil)))) (pss_one (ps_expr (pe_bm PySem.F.plainAttrs_list PySem.F.slot_list_append PySem.F.type_list_append mt_append (pv 3) (pa_cons (pe_op op_mulS (pe_ifExp (pt_cmpR op_gt (pv 6) pe_int (nomark _)) (pv 7) (pe_cal cO (hr.mono (by decide)) rfl gO (pa_cons (pv 7) pa_nil))) (pe_callB call_abs (by rfl) B.abs (by decide +kernel) (pa_cons (pv 6) pa_nil))) pa_nil)))))) (pss_one (ps_ret (pe_cal cH (hr.mono (by decide)) rfl gH (pa_cons (pe_op op_add_str (pe_join pe_str (pv 3)) (pe_cal cD (hr.mono (by decide)) rfl gD (pa_cons (pv 0) (pa_cons (pv 2) pa_nil)))) pa_nil)))))))))), ?_⟩
    have h3 : (3 : Nat) ≤ sizeLine := by decide
    have h6 : (1000000 : Nat) ≤ sizeLine := by decide
    have hn3 := lg.le
    have hn1 := lg.pos
    obtain ⟨dx, kd, id, g1, g2, g3⟩ := hw.ins
    obtain ⟨dxT, nrT, ldT, idT, itT, szT, hT1, _⟩ := _root_.id g2
    have hltl : (lt L).length = L.length := lt_size L
    refine ⟨_, rfl, _, rfl, by rw [hltl]; omega, _, rfl, x, dx, _, rfl, g1, x, dx, _, _, rfl, g1, rfl, ta, dxT, _, rfl, hT1, ta, dxT, _, _, rfl, hT1, rfl, rfl, _, rfl, ?_⟩
    refine iteN (by rw [hltl]; simp) ?_
    refine ⟨_, rfl, x, dx, _, rfl, g1, x, dx, _, _, rfl, g1, rfl, ta, dxT, _, rfl, hT1, rfl, ta, L.length, [], rfl, g2, fun H1 b sm1 hb => ?_⟩
    refine ⟨Nat.zero_le _, fun em nem => ?_⟩
    have sE : Same H1 (upd H1 em (.lst [])) := same_new nem
    refine rd_neNil (hb.same sE) (flat_P []) upd_same ⟨_, rfl, iteN rfl ?_⟩
    have s1 := sm1.trans sE
    refine ⟨_, rfl, x, ta, L.length, es, rfl, hw.same s1, hn1, hn3, hk, hz, fun h => (by rw [hend] at h; cases h), fun p hp H2 c sm2 hc => ?_⟩
    rw [hend] at hp
    cases hp
    have s2 := s1.trans sm2
    refine ⟨_, rfl, rfl, _, rfl, iteN (decide_eq_false fun q => nomatch q) ?_⟩
    refine ⟨Nat.zero_le _, fun l nl => ?_⟩
    have sl : Same H2 (upd H2 l (.lst [])) := same_new nl
    have s3 := s2.trans sl
    refine ⟨_, rfl, x, dx, _, rfl, s3 _ _ g1, rfl, x, dx, kd, _, es, rfl, s3 _ _ g1, rfl, g3.same s3, by omega, fun H4 d sm4 hd => ?_⟩
    have hso := sok_stS hk
    have hl4 := sm4 _ _ (upd_same (H := H2) (a := l) (o := .lst []))
    have hc4 := sm4 _ _ (sl _ _ hc)
    have nl2 : H2 l = none := nl
    have s4 : Same H2 H4 := sl.trans sm4
    have hsl := stS_len es
    change ∀ H', Same H H' → Q (.str (wd L (short (((stS es).map partOf).flatten ++ road e)))) H' at q
    generalize stS es = ss at hd hso hpart hall hsl q
    obtain ⟨vd, ed, ad⟩ := hd
    have hlenall : ∀ i, (((ss.take i).map partOf).flatten).length + (road e).length ≤ sizeLine := fun i => by
      rw [List.length_append] at hall
      have h1 : ((ss.map partOf).flatten).length = (((ss.take i).map partOf).flatten).length + (((ss.drop i).map partOf).flatten).length := by
        rw [← List.length_append, ← List.flatten_append, ← List.map_append, List.take_append_drop]
      omega
    refine ⟨d, rfl, ⟨_, .of ed⟩, ?_⟩
    have stx : ∀ {H5 H6 : Hp} {vs : List V}, H5 l = some (.lst vs) → SameX l H5 H6 → STup H5 H6 := fun {H5 H6 vs} e sx b xs q => sx b _ (fun z => by rw [z, e] at q; cases q) q
    refine for_it walk_list (fun i σ H5 => ∃ y4 y5 y6 y7 vl, σ = [some (.str (lt L)), some (.ref x), some (.ref c), some (.ref l), y4, y5, y6, y7] ∧ SameX l H4 H5 ∧ H5 d = some (.lst vd) ∧ H5 l = some (.lst vl) ∧ ecStr.all H5 vl (((ss.take i).map partOf).map (wd L)))
      ⟨_, _, _, _, [], rfl, SameX.refl _ _, ed, hl4, .nil⟩ (fun i σ H5 _ ⟨_, _, _, _, _, _, _, e5, _⟩ => .of e5) (fun i y σ H5 H6 hi pv yy => ?_) (fun σ H5 pv => ?_)
    · obtain ⟨y4, y5, y6, y7, vl, rfl, sx, ed5, el5, al5⟩ := pv
      obtain ⟨rfl, e5⟩ := yy
      have hi' : i < ss.length := by rw [← ad.length]; exact hi
      have hss : ss[i]? = some ss[i] := by simp [hi']
      obtain ⟨t, qa, rfl, hq, ht⟩ := LsE.walk ad (stx hl4 sx) e5 hss
      obtain ⟨l1, l2⟩ := hso ss[i] (List.getElem_mem hi')
      have hp := hpart ss[i] (List.getElem_mem hi')
      have hnext : ((ss.take (i + 1)).map partOf).map (wd L) = ((ss.take i).map partOf).map (wd L) ++ [wd L (partOf ss[i])] := by rw [take_snoc hss, List.map_append, List.map_append]; rfl
      generalize ss[i] = s at hq ht l1 l2 hp hnext
      have hvl : vl.length < sizeLine := by
        have := al5.length
        rw [List.length_map, List.length_map] at this
        have := List.length_take_le i ss
        omega
      have hpl : (part0 s).length = (road s.1).length + 1 + (road (stp s.1 s.2.1 1)).length := by
        unfold part0
        rw [List.length_append, List.length_append, inv_len]
        rfl
      have hplen := hp.len
      have l1' : (stp s.1 s.2.1 1).length = L.length := by rw [stp_len _ _ _ (by omega)]; exact l1
      refine ⟨t, _, rfl, .of ht, rfl, _, _, rfl, _, _, rfl, _, _, rfl, rfl, ?_⟩
      refine ⟨_, rfl, _, rfl, L, qa, s.1, lg, l1, hp.b1, by omega, rfl, hq, fun H7 sm7 => ?_⟩
      refine ⟨_, rfl, _, rfl, lt L, (s.2.1 : Int), L.getD s.2.1 0, rfl, rfl, by rw [hltl]; omega, ?_, ?_⟩
      · refine atI_nat ?_
        show L[s.2.1]? = _
        rw [List.getD_eq_getElem?_getD, List.getElem?_eq_getElem l2]
        rfl
      refine ⟨_, wd L [(s.2.1, true)], rfl, rfl, by rw [wd_len, wd_len]; show _ + 1 ≤ _; omega, ?_⟩
      rw [wd_app]
      refine ⟨_, rfl, _, rfl, _, rfl, qa, s.1, s.2.1, 1, rfl, sm7 _ _ hq, by omega, by omega, fun H8 c8 sm8 hc8 => ?_⟩
      refine ⟨L, c8, stp s.1 s.2.1 1, lg, l1', hp.b2, by omega, rfl, hc8, fun H9 sm9 => ?_⟩
      refine ⟨L, _, lg, road_wf l1', by omega, rfl, fun H10 sm10 => ?_⟩
      refine ⟨_, _, rfl, rfl, by rw [wd_len, wd_len, inv_len, List.length_append]; show _ + 1 + _ ≤ _; omega, ?_⟩
      rw [wd_app]
      have sm11 : Same H6 H10 := sm7.trans (sm8.trans (sm9.trans sm10))
      have hpw := part0_wf l1 l2
      change WF L.length (part0 s) at hpw
      have heq : partOf s = (List.replicate s.2.2.natAbs (if s.2.2 > 0 then part0 s else inv (part0 s))).flatten := partOf_eq s
      refine ⟨_, rfl, .inl ⟨rfl, _, .of (sm11 _ _ el5)⟩, _, rfl, _, _, rfl, rfl, _, rfl, ?_⟩
      have hnum := hp.num
      have hall2 := hp.all
      have hab : (if s.2.2 < 0 then -s.2.2 else s.2.2) = (s.2.2.natAbs : Int) := by split <;> omega
      by_cases hv : s.2.2 > 0
      · rw [if_pos hv] at heq
        refine iteY (decide_eq_true hv) ⟨_, rfl, _, rfl, s.2.2, rfl, ?_⟩
        refine ⟨wd L (part0 s), _, rfl, rfl, by omega, by omega, by rw [wd_len, hab, Int.toNat_natCast]; exact hall2, ?_⟩
        rw [hab, rep_wd, Int.toNat_natCast, ← heq]
        refine ⟨l, vl, _, rfl, rfl, sm11 _ _ el5, hvl, ?_⟩
        refine ⟨_, _, _, _, vl ++ [.str (wd L (partOf s))], rfl, (sx.trans (Same.x sm11)).trans sameX_upd, ?_, upd_same, ?_⟩
        · rw [upd_ne (fun z => by rw [z, el5] at ed5; have := HO.lst.inj (Option.some.inj ed5); rw [← this] at e5 ; have := List.mem_of_getElem? e5; rw [all_strs al5] at this; obtain ⟨_, _, h⟩ := List.mem_map.mp this; cases h)]
          exact sm11 _ _ ed5
        · rw [hnext]
          exact Paired.snoc (ecStr.allKeep (STup.trans (Same.tups sm11) (stup_lst (sm11 _ _ el5))) al5) rfl
      · rw [if_neg hv] at heq
        refine iteN (decide_eq_false hv) ⟨_, rfl, L, part0 s, lg, hpw, by omega, rfl, fun H11 sm12 => ?_⟩
        have sm13 := sm11.trans sm12
        refine ⟨_, rfl, s.2.2, rfl, ?_⟩
        refine ⟨wd L (inv (part0 s)), _, rfl, rfl, by omega, by omega, by rw [wd_len, inv_len, hab, Int.toNat_natCast]; exact hall2, ?_⟩
        rw [hab, rep_wd, Int.toNat_natCast, ← heq]
        refine ⟨l, vl, _, rfl, rfl, sm13 _ _ el5, hvl, ?_⟩
        refine ⟨_, _, _, _, vl ++ [.str (wd L (partOf s))], rfl, (sx.trans (Same.x sm13)).trans sameX_upd, ?_, upd_same, ?_⟩
        · rw [upd_ne (fun z => by rw [z, el5] at ed5; have := HO.lst.inj (Option.some.inj ed5); rw [← this] at e5 ; have := List.mem_of_getElem? e5; rw [all_strs al5] at this; obtain ⟨_, _, h⟩ := List.mem_map.mp this; cases h)]
          exact sm13 _ _ ed5
        · rw [hnext]
          exact Paired.snoc (ecStr.allKeep (STup.trans (Same.tups sm13) (stup_lst (sm13 _ _ el5))) al5) rfl
    · obtain ⟨y4, y5, y6, y7, vl, rfl, sx, ed5, el5, al5⟩ := pv
      have e0 : ss.take vd.length = ss := List.take_of_length_le (by rw [ad.length]; exact Nat.le_refl _)
      rw [e0] at al5
      have hc5 := stx hl4 sx _ _ hc4
      have hall0 := hlenall ss.length
      rw [List.take_length] at hall0
      rw [sizeLine_eq] at hall0
      have el6 := el5
      rw [all_strs al5] at el6
      refine ⟨⟨_, rfl⟩, _, rfl, Str.ofString "", l, (ss.map partOf).map (wd L), rfl, rfl, .inl (.of el6), by rw [sum_wd, e_len, Nat.mul_zero]; omega, ?_⟩
      rw [join_wd]
      refine ⟨_, rfl, _, rfl, L, c, e, lg, hel, heb, by rw [sizeLine_eq]; omega, rfl, hc5, fun H6 sm6 => ?_⟩
      refine ⟨_, _, rfl, rfl, by rw [wd_len, wd_len, sizeLine_eq]; omega, ?_⟩
      rw [wd_app]
      refine ⟨L, _, lg, WF.app (flat_wf fun v hv => ?_) (road_wf hel), by rw [List.length_append, sizeLine_eq]; omega, rfl, fun H7 sm7 => ?_⟩
      · obtain ⟨s, hs, rfl⟩ := List.mem_map.mp hv
        obtain ⟨l1, l2⟩ := hso s hs
        exact partOf_wf l1 l2
      · refine q _ fun b u hb => ?_
        have hbl : b ≠ l := ne_of_none (s2 _ _ hb) nl
        exact sm7 _ _ (sm6 _ _ (sx _ _ hbl (s4 _ _ (s2 _ _ hb))))
end
end K35
/-! text D19 -/
set_option Elab.async false
set_option linter.all false
set_option maxRecDepth 100000
set_option maxHeartbeats 4000000
/-! sum_left, summed, shifts -/
namespace K35
open PySem PySem.Spec PyProof.Rows L2
def slF (p : Place) (i : Nat) (c : Place) (t : Int) (s : St3) : Int := if (decide (s.2.1 = i) && isBefore s.1 p c) = true then t + s.2.2 else t
theorem sumLeft_eq (ss : List St3) (p : Place) (i : Nat) (c : Place) : sumLeft ss p i c = ss.foldl (slF p i c) 0 := rfl
def Stops (es : WE) (c : Place) (i : Nat) : Nat → Place → Prop
  | 0, _ => False
  | f + 1, p => (getE es (addP p c, i)).getD 0 ≠ 0 ∨ Stops es c i f (addP p c)
def chOf (es : WE) (c : Place) (s : St3) : List St3 := if sumLeft (stS es) s.1 s.2.1 c = 0 then [] else chainF es c s.2.1 (sumLeft (stS es) s.1 s.2.1 c) fuel s.1
theorem summedL_eq (es : WE) (c : Place) : summedL es c = ((stS es).map (chOf es c)).flatten := rfl
theorem chain_len (es : WE) (c : Place) (i : Nat) (r : Int) : ∀ (f : Nat) (p : Place), (chainF es c i r f p).length ≤ f
  | 0, _ => Nat.le_refl _
  | f + 1, p => by
    unfold chainF
    rw [List.length_cons]
    split
    · exact Nat.succ_le_succ (Nat.zero_le _)
    · exact Nat.succ_le_succ (chain_len es c i r f _)
theorem chain_ok {n : Nat} (es : WE) {c : Place} (hc : c.length = n) {i : Nat} (hi : i < n) (r : Int) : ∀ (f : Nat) (p : Place), p.length = n → SOk n (chainF es c i r f p)
  | 0, _, _ => fun s hs => nomatch hs
  | f + 1, p, hp => by
    unfold chainF
    intro s hs
    rcases List.mem_cons.mp hs with rfl | hs
    · exact ⟨hp, hi⟩
    · split at hs
      · cases hs
      · exact chain_ok es hc hi r f _ (by rw [addP_len _ _ (by omega)]; exact hp) s hs
theorem chOf_len (es : WE) (c : Place) (s : St3) : (chOf es c s).length ≤ 400 := by
  unfold chOf
  split
  · exact Nat.zero_le _
  · exact chain_len es c _ _ _ _
theorem flat_len_le {α β : Type} (g : α → List β) (k : Nat) (h : ∀ x, (g x).length ≤ k) : ∀ l : List α, ((l.map g).flatten).length ≤ k * l.length
  | [] => Nat.zero_le _
  | x :: l => by
    rw [List.map_cons, List.flatten_cons, List.length_append, List.length_cons, Nat.mul_succ]
    have := flat_len_le g k h l
    have := h x
    omega
section
variable {P : Program} {w : World} {K : PySem.W.Frag} {mg : Str → Option Value} {base : Heap} {f C CT : Addr} {fd : FuncData}
abbrev s_sum_left : Stmt := top 45
theorem sc_sum_left : FnScope ["walk", "place", "letter", "counts", "total", "other", "known", "number"] ["walk", "place", "letter", "counts"] (defScope s_sum_left) := ⟨rfl, rfl, rfl, by decide +kernel, rfl, by decide +kernel, by decide +kernel⟩
def sp_sum_left (P : Program) (w : World) (CT C : Addr) : Sp := fun vs H Q _ => ∃ (x b d ta n : Nat) (R : List Place) (es : WE) (p c : Place) (i : Nat), vs = [.ref x, .ref b, .int (i : Int), .ref d] ∧ WkAt P w CT C H x ta n R es ∧ es.length ≤ sizeLine ∧ n ≤ 3 ∧ IT H b p ∧ IT H d c ∧ p.length = n ∧ c.length = n ∧ isZ c = false ∧ Bp p ∧ Bp c ∧
  (∀ s ∈ stS es, s.1.length = n ∧ Bp s.1) ∧ ∀ H', Same H H' → Q (.int (sumLeft (stS es) p i c)) H'
theorem c_sum_left {fS fB : Addr} {fdS fdB : FuncData} (F : FnP K "sum_left" "sum_left" s_sum_left f fd) (T : WalF K C) (cS : Cal P w K mg base 1 ["self"] (sp_wstr P w C) fS fdS) (mS : Meth K C "streets" fS)
    (cB : Cal P w K mg base 2 ["one", "other", "counts"] sp_is_before fB fdB) (gB : mg "is_before" = some (.ref fB)) : Cal P w K mg base 3 ["walk", "place", "letter", "counts"] (sp_sum_left P w CT C) f fd := by
  refine F.cal (F.ok sc_sum_left (fun vs H Q E h => ?_) (fun cdv A outer s H vs Q E hr h => ?_)) (fun _ _ _ _ _ _ us hl => match us, hl with | [_, _, _, _], _ => rfl)
  · obtain ⟨x, b, d, ta, n, R, es, p, c, i, rfl, _⟩ := h
    rfl
  · obtain ⟨x, b, d, ta, n, R, es, p, c, i, rfl, hw, hz, hn3, hb, hd, hp, hc, hcz, hpb, hcb, hso, q⟩ := h
    have nd := sc_sum_left.nd
    refine ⟨_, PSs.nox (pss_cons (ps_set (i := 4) nd rfl (.inl rfl) pe_int) (pss_cons (ps_for PassesOwn.never rfl (pi_list (pe_mcal0 cS T.cl mS (hr.mono (by decide)) (pv 0))) (pg_tup rfl (pgs_cons (pg_name (i := 5) nd rfl (.inl rfl)) (pgs_cons (pg_name (i := 6) nd rfl (.inl rfl)) (pgs_cons (pg_name (i := 7) nd rfl (.inl rfl)) pgs_nil)))) (pss_one (ps_if (PW.pt (pw_and (pt_cmpR op_eq (pv 6) (pv 2) (nomark _)) (pw_and1 (pt_val (pe_cal cB hr rfl gB (pa_cons (pv 5) (pa_cons (pv 1) (pa_cons (pv 3) pa_nil)))))))) (pss_one (ps_aug (i := 4) nd rfl (.inl rfl) (pv 7) ip_add)) pss_nil))) (pss_one (ps_ret (pv 4))))), ?_⟩
    obtain ⟨dx, kd, id, g1, g2, g3⟩ := hw.ins
    rw [sumLeft_eq] at q
    refine ⟨_, rfl, x, dx, _, rfl, g1, rfl, x, dx, kd, _, es, rfl, g1, rfl, g3, hz, fun H1 v sm1 hv => ?_⟩
    generalize stS es = ss at hv hso q
    obtain ⟨vv, ev, av⟩ := hv
    refine ⟨v, rfl, ⟨_, .of ev⟩, ?_⟩
    refine for_it walk_list (fun j σ H2 => ∃ y5 y6 y7, σ = [some (.ref x), some (.ref b), some (.int (i : Int)), some (.ref d), some (.int ((ss.take j).foldl (slF p i c) 0)), y5, y6, y7] ∧ Same H1 H2) ⟨_, _, _, rfl, Same.refl _⟩ (fun j σ H2 _ ⟨_, _, _, _, sm⟩ => .of (sm _ _ ev)) (fun j y σ H2 H3 hj pv yy => ?_) (fun σ H2 pv => ?_)
    · obtain ⟨y5, y6, y7, rfl, sm⟩ := pv
      obtain ⟨rfl, e⟩ := yy
      have hj' : j < ss.length := by rw [← av.length]; exact hj
      have hss : ss[j]? = some ss[j] := by simp [hj']
      obtain ⟨t, qa, rfl, hq, ht⟩ := LsE.walk av (Same.tups sm) e hss
      obtain ⟨l1, l2⟩ := hso ss[j] (List.getElem_mem hj')
      have hnext : (ss.take (j + 1)).foldl (slF p i c) 0 = slF p i c ((ss.take j).foldl (slF p i c) 0) ss[j] := by rw [take_snoc hss, List.foldl_append]; rfl
      rw [hnext]
      generalize ss[j] = s at hq ht l1 l2
      generalize (ss.take j).foldl (slF p i c) 0 = t0
      have s2 := sm1.trans sm
      refine ⟨t, _, rfl, .of ht, rfl, _, _, rfl, _, _, rfl, _, _, rfl, rfl, ?_⟩
      refine ⟨_, rfl, _, rfl, rfl, _, rfl, ?_⟩
      unfold slF
      by_cases h1 : s.2.1 = i
      · refine iteY (by rw [h1]; simp) ?_
        refine ⟨_, rfl, _, rfl, _, rfl, qa, b, d, s.1, p, c, rfl, hq, s2 _ _ hb, s2 _ _ hd, by omega, by omega, by omega, hcz, l2, hpb, hcb, fun H4 sm4 => ?_⟩
        refine ⟨_, rfl, ?_⟩
        cases h2 : isBefore s.1 p c with
        | true =>
          refine iteT ⟨_, rfl, _, rfl, _, _, rfl, rfl, ?_⟩
          rw [if_pos (by simp [h1])]
          exact ⟨_, _, _, rfl, sm.trans sm4⟩
        | false =>
          refine iteF ?_
          rw [if_neg (by simp)]
          exact ⟨_, _, _, rfl, sm.trans sm4⟩
      · refine iteN (decide_eq_false fun q => h1 (by have := V.int.inj q; omega)) ?_
        rw [if_neg (by simp [h1])]
        exact ⟨_, _, _, rfl, sm⟩
    · obtain ⟨y5, y6, y7, rfl, sm⟩ := pv
      have e0 : ss.take vv.length = ss := List.take_of_length_le (by rw [av.length]; exact Nat.le_refl _)
      rw [e0]
      exact ⟨_, rfl, q _ (sm1.trans sm)⟩
/-! shifts -/
abbrev s_shifts : Stmt := top 47
theorem sc_shifts : FnScope ["one", "other", "place", "letter", "number", "there", "known", "value"] ["one", "other"] (defScope s_shifts) := ⟨rfl, rfl, rfl, by decide +kernel, rfl, by decide +kernel, by decide +kernel⟩
def sp_shifts (P : Program) (w : World) (C CT : Addr) : Sp := fun vs H Q _ => ∃ (x y ta tb n : Nat) (R S : List Place) (es fs : WE), vs = [.ref x, .ref y] ∧ WkAt P w CT C H x ta n R es ∧ WkAt P w CT C H y tb n S fs ∧ KOk n es ∧ KOk n fs ∧ n ≤ 3 ∧ es.length ≤ sizeLine ∧ fs.length ≤ sizeLine ∧ es ≠ [] ∧ ∀ H' b, Same H H' → LsE ecP H' b (shiftsM (stS es) (stS fs)) → Q (.ref b) H'
theorem c_shifts {fS fM : Addr} {fdS fdM : FuncData} (F : FnP K "shifts" "shifts" s_shifts f fd) (T : WalF K C) (cS : Cal P w K mg base 1 ["self"] (sp_wstr P w C) fS fdS) (mS : Meth K C "streets" fS)
    (cM : Cal P w K mg base 1 ["one", "other"] (sp_zip fun x y => x - y) fM fdM) (gM : mg "minus" = some (.ref fM)) : Cal P w K mg base 2 ["one", "other"] (sp_shifts P w C CT) f fd := by
  refine F.cal (F.ok sc_shifts (fun vs H Q E h => ?_) (fun cdv A outer s H vs Q E hr h => ?_)) (fun _ _ _ _ _ _ us hl => match us, hl with | [_, _], _ => rfl)
  · obtain ⟨x, y, ta, tb, n, R, S, es, fs, rfl, _⟩ := h
    rfl
  · obtain ⟨x, y, ta, tb, n, R, S, es, fs, rfl, hw, hv, hke, hkf, hn3, hze, hzf, hne, q⟩ := h
    have nd := sc_shifts.nd
    refine ⟨_, PSs.nox (pss_cons (ps_asg (pe_ix ix_list (pe_mcal0 cS T.cl mS (hr.mono (by decide)) (pv 0)) pe_int (fun _ _ => rfl)) (pg_tup rfl (pgs_cons (pg_name (i := 2) nd rfl (.inr rfl)) (pgs_cons (pg_name (i := 3) nd rfl (.inr rfl)) (pgs_cons (pg_name (i := 4) nd rfl (.inr rfl)) pgs_nil))))) (pss_one (ps_ret (pe_lc (own := [("there", 5), ("known", 6), ("value", 7)]) (g := (gTup K 3 (gCons (gName 5) (gCons (gName 6) (gCons (gName 7) gNil))))) rfl nd (pi_list (pe_mcal0 cS T.cl mS (hr.mono (by decide)) (pv 1))) (blkOk_by (N := ["one", "other", "place", "letter", "number", "there", "known", "value"]) (sc := defScope s_shifts) (by decide +kernel)) (fun _ _ _ _ _ => (pg_tup rfl (pgs_cons (pg_name (i := 5) nd rfl (.inl rfl)) (pgs_cons (pg_name (i := 6) nd rfl (.inl rfl)) (pgs_cons (pg_name (i := 7) nd rfl (.inl rfl)) pgs_nil))))) (fun _ _ _ _ _ => (pts_one (pt_cmpR (r := rEqD K) (op_eqD hr.units) (pe_tup (pa_cons (pv 6) (pa_cons (pv 7) pa_nil))) (pe_tup (pa_cons (pv 3) (pa_cons (pv 4) pa_nil))) (nomark _)))) (fun _ _ _ _ _ => (pe_cal cM (hr.mono (by decide)) rfl gM (pa_cons (pv 5) (pa_cons (pv 2) pa_nil)))))))), ?_⟩
    have h3 : (3 : Nat) ≤ sizeLine := by decide
    obtain ⟨dx, kd, id, g1, g2, g3⟩ := hw.ins
    obtain ⟨dy, ld, jd, i1, i2, i3⟩ := hv.ins
    have hsl := stS_len es
    have hsf := stS_len fs
    have hso := sok_stS hke
    have hsof := sok_stS hkf
    refine ⟨_, rfl, x, dx, _, rfl, g1, rfl, x, dx, kd, _, es, rfl, g1, rfl, g3, hze, fun H1 v sm1 hv1 => ?_⟩
    generalize stS es = ss at hsl hso hv1 q
    cases ss with
    | nil =>
      rw [List.length_nil] at hsl
      exact absurd (List.eq_nil_of_length_eq_zero hsl.symm) hne
    | cons s0 sr =>
      obtain ⟨vv, ev, av⟩ := hv1
      cases av with
      | cons a1 a2 =>
        obtain ⟨t, qa, rfl, hq, ht⟩ := a1
        obtain ⟨l1, l2⟩ := hso s0 (List.mem_cons_self ..)
        refine ⟨v, _, 0, _, rfl, rfl, .of ev, atI_nat (j := 0) rfl, ?_⟩
        refine ⟨t, _, rfl, .of ht, rfl, _, _, rfl, _, _, rfl, _, _, rfl, rfl, ?_⟩
        refine ⟨_, rfl, y, dy, _, rfl, sm1 _ _ i1, rfl, y, dy, ld, _, fs, rfl, sm1 _ _ i1, rfl, i3.same sm1, hzf, fun H2 v2 sm2 hv2 => ?_⟩
        obtain ⟨v3, ev3, av3⟩ := hv2
        refine ⟨v2, rfl, ⟨_, .of ev3⟩, fun D nD => ?_⟩
        refine lc_gen walk_list ecP (stS fs) (fun s => if s.2.1 = s0.2.1 ∧ s.2.2 = s0.2.2 then some (subP s.1 s0.1) else none) nD av3.length.symm (by rw [av3.length]; omega) (fun H3 sm => .of (sm _ _ ev3)) (fun i y H3 H4 st hst sm yy N1 N0 k1 k0 => ?_) (fun H3 sm3 h3' => ?_)
        · obtain ⟨rfl, e⟩ := yy
          obtain ⟨t2, q2, rfl, hq2, ht2⟩ := LsE.walk av3 (Same.tups sm) e hst
          obtain ⟨m1, m2⟩ := hsof st (List.mem_of_getElem? hst)
          refine ⟨t2, _, rfl, .of ht2, rfl, _, _, rfl, _, _, rfl, _, _, rfl, rfl, rfl, ?_⟩
          refine ⟨_, rfl, _, rfl, by show 2 ≤ sizeLine; omega, fun t3 nt3 => ?_⟩
          refine ⟨_, rfl, _, rfl, by show 2 ≤ sizeLine; omega, fun t4 nt4 => ?_⟩
          have s3 := same_new (o := .tup [.int (st.2.1 : Int), .int st.2.2]) nt3
          have s4 := same_new (o := .tup [.int (s0.2.1 : Int), .int s0.2.2]) nt4
          refine rd_eqP (p := [(st.2.1 : Int), st.2.2]) (q := [(s0.2.1 : Int), s0.2.2]) (s4 _ _ upd_same) upd_same ⟨_, rfl, ?_⟩
          by_cases hc : st.2.1 = s0.2.1 ∧ st.2.2 = s0.2.2
          · refine iteY (decide_eq_true (by rw [hc.1, hc.2])) ?_
            have hqa := s4 _ _ (s3 _ _ (sm _ _ (sm2 _ _ hq)))
            refine ⟨_, rfl, _, rfl, q2, qa, st.1, s0.1, rfl, s4 _ _ (s3 _ _ hq2), hqa, by omega, fun H5 c sm5 hc5 => ?_⟩
            exact k1 _ _ _ (if_pos hc) ⟨c, rfl, hc5⟩ (s3.trans (s4.trans sm5))
          · refine iteN (decide_eq_false fun q => hc ?_) (k0 _ (if_neg hc) (s3.trans s4))
            have q1 := (List.cons.inj q).1
            have q2 := (List.cons.inj (List.cons.inj q).2).1
            exact ⟨by omega, q2⟩
        · have ef : (stS fs).filterMap (fun s => if s.2.1 = s0.2.1 ∧ s.2.2 = s0.2.2 then some (subP s.1 s0.1) else none) = shiftsM (s0 :: sr) (stS fs) := by
            show _ = ((stS fs).filter fun x => decide (x.2.1 = s0.2.1 ∧ x.2.2 = s0.2.2)).map fun x => subP x.1 s0.1
            generalize stS fs = l
            induction l with
            | nil => rfl
            | cons a l ih =>
              rw [fm_cons, List.filter_cons, ih]
              by_cases h : a.2.1 = s0.2.1 ∧ a.2.2 = s0.2.2
              · rw [if_pos h, if_pos (decide_eq_true h)]
                rfl
              · rw [if_neg h, if_neg (by simpa using h)]
          rw [ef] at h3'
          exact q _ D (sm1.trans (sm2.trans sm3)) h3'
/-! summed -/
abbrev s_summed : Stmt := top 44
theorem sc_summed : FnScope ["walk", "counts", "found", "place", "letter", "number", "rest"] ["walk", "counts"] (defScope s_summed) := ⟨rfl, rfl, rfl, by decide +kernel, rfl, by decide +kernel, by decide +kernel⟩
def sp_summed (P : Program) (w : World) (CT C : Addr) : Sp := fun vs H Q _ => ∃ (x d ta n : Nat) (es : WE) (c : Place), vs = [.ref x, .ref d] ∧ WkAt P w CT C H x ta n [] es ∧ KOk n es ∧ 400 * es.length < sizeLine ∧ 1 ≤ n ∧ n ≤ 3 ∧ IT H d c ∧ c.length = n ∧ isZ c = false ∧ Bp c ∧ (∀ s ∈ stS es, Bp s.1) ∧
  (∀ s ∈ stS es, sumLeft (stS es) s.1 s.2.1 c ≠ 0 → Stops es c s.2.1 fuel s.1) ∧ ∀ H' a, Same H H' → WkAt P w CT C H' a ta n [] (mkW [] (summedL es c)) → Q (.ref a) H'
theorem c_summed {fS fL fP fA fT fI pT : Addr} {fdS fdL fdP fdA fdT fdI : FuncData} (F : FnP K "summed" "summed" s_summed f fd) (T : WalF K C) (gW : mg "Walk" = some (.ref C)) (cS : Cal P w K mg base 1 ["self"] (sp_wstr P w C) fS fdS) (mS : Meth K C "streets" fS)
    (cL : Cal P w K mg base 3 ["walk", "place", "letter", "counts"] (sp_sum_left P w CT C) fL fdL) (gL : mg "sum_left" = some (.ref fL)) (cP : Cal P w K mg base 1 ["one", "other"] (sp_zip fun x y => x + y) fP fdP) (gP : mg "plus_tables" = some (.ref fP))
    (cA : Cal P w K mg base 5 ["self", "place", "letter"] (sp_wat P w CT C) fA fdA) (mA : Meth K C "at_street" fA) (cT : Cal P w K mg base 1 ["self"] (getSp C "own_table") fT fdT) (hT : PropOf K C "table" pT fT)
    (M : Mk K C fI) (cI : FnOk P w K mg base CX0 3 fI fdI ["self", "table", "streets"] (sp_winit P w CT C)) (bI : Binds K fdI ["self", "table", "streets"] []) : Cal P w K mg base 6 ["walk", "counts"] (sp_summed P w CT C) f fd := by
  refine F.cal (F.ok sc_summed (fun vs H Q E h => ?_) (fun cdv A outer s H vs Q E hr h => ?_)) (fun _ _ _ _ _ _ us hl => match us, hl with | [_, _], _ => rfl)
  · obtain ⟨x, d, ta, n, es, c, rfl, _⟩ := h
    rfl
  · obtain ⟨x, d, ta, n, es, c, rfl, hw, hk, hz, hn1, hn3, hd, hc, hcz, hcb, hsb, hst, q⟩ := h
    have nd := sc_summed.nd
    refine ⟨_, PSs.nox (pss_cons (ps_set (i := 2) nd rfl (.inl rfl) (pe_lst pa_nil)) (pss_cons (ps_for PassesOwn.never rfl (pi_list (pe_mcal0 cS T.cl mS (hr.mono (by decide)) (pv 0))) (pg_tup rfl (pgs_cons (pg_name (i := 3) nd rfl (.inl rfl)) (pgs_cons (pg_name (i := 4) nd rfl (.inl rfl)) (pgs_cons (pg_name (i := 5) nd rfl (.inl rfl)) pgs_nil)))) (pss_cons (ps_set (i := 6) nd rfl (.inl rfl) (pe_cal cL (hr.mono (by decide)) rfl gL (pa_cons (pv 0) (pa_cons (pv 3) (pa_cons (pv 4) (pa_cons (pv 1) pa_nil)))))) (pss_one (ps_while PassesOwn.never (pt_cmpR op_ne (pv 6) pe_int (nomark _)) (pss_cons (ps_expr (pe_bm PySem.F.plainAttrs_list PySem.F.slot_list_append PySem.F.type_list_append mt_append (pv 2) (pa_cons (pe_tup (pa_cons (pv 3) (pa_cons (pv 4) (pa_cons (pv 6) pa_nil)))) pa_nil))) (pss_cons (ps_set (i := 3) nd rfl (.inl rfl) (pe_cal cP (hr.mono (by decide)) rfl gP (pa_cons (pv 3) (pa_cons (pv 1) pa_nil)))) (pss_one (ps_if (pt_cmpR op_ne (pe_mcal cA T.cl mA hr (pv 0) (pa_cons (pv 3) (pa_cons (pv 4) pa_nil))) pe_int (nomark _)) (pss_one ps_break) pss_nil)))))))) (pss_one (ps_ret (pe_make M cI (hr.mono (by decide)) rfl gW bI .nil pass0 (pa_cons (pe_pcal cT T.cl hT (hr.mono (by decide)) (pv 0)) (pa_cons (pv 2) pa_nil))))))), ?_⟩
    have h3 : (3 : Nat) ≤ sizeLine := by decide
    obtain ⟨dx, kd, id, g1, g2, g3⟩ := hw.ins
    have hso := sok_stS hk
    have hsl := stS_len es
    have hcl := flat_len_le (chOf es c) 400 (chOf_len es c)
    have hR0 := rok0 hn1 hn3
    have hstr2 : ∀ s ∈ stS es, s.1.length = n ∧ Bp s.1 := fun s hs => ⟨(hso s hs).1, hsb s hs⟩
    refine ⟨Nat.zero_le _, fun fo nf => ?_⟩
    have s1 : Same H (upd H fo (.lst [])) := same_new nf
    have ef1 : upd H fo (.lst []) fo = some (.lst []) := upd_same
    generalize upd H fo (.lst []) = H1 at s1 ef1
    refine ⟨_, rfl, x, dx, _, rfl, s1 _ _ g1, rfl, x, dx, kd, _, es, rfl, s1 _ _ g1, rfl, g3.same s1, by omega, fun H2 v sm2 hv => ?_⟩
    obtain ⟨vv, ev, av⟩ := hv
    have ef2 := sm2 _ _ ef1
    have s2 := s1.trans sm2
    have hvf : v = fo → vv = [] := fun z => by
      rw [z, ef2] at ev
      exact (HO.lst.inj (Option.some.inj ev)).symm
    refine ⟨v, rfl, ⟨_, .of ev⟩, ?_⟩
    refine for_it walk_list (fun i σ H3 => ∃ y3 y4 y5 y6, σ = [some (.ref x), some (.ref d), some (.ref fo), y3, y4, y5, y6] ∧ Same H H3 ∧ H3 v = some (.lst vv) ∧ ecS.all H3 vv (stS es) ∧ LsE ecS H3 fo ((((stS es).take i).map (chOf es c)).flatten))
      ⟨_, _, _, _, rfl, s2, ev, av, [], ef2, .nil⟩ (fun i σ H3 _ ⟨_, _, _, _, _, _, e, _⟩ => .of e) (fun i y σ H3 H4 hi pv yy => ?_) (fun σ H3 pv => ?_)
    · obtain ⟨y3, y4, y5, y6, rfl, sm, ev3, av3, hfo⟩ := pv
      obtain ⟨rfl, e⟩ := yy
      have hnf : v ≠ fo := fun z => by rw [hvf z] at hi; exact absurd hi (Nat.not_lt_zero _)
      have hi' : i < (stS es).length := by rw [← av.length]; exact hi
      have hss : (stS es)[i]? = some (stS es)[i] := by simp [hi']
      obtain ⟨t, qa, rfl, hq, ht⟩ := LsE.walk av3 (STup.refl _) e hss
      have hmem := List.getElem_mem hi'
      obtain ⟨l1, l2⟩ := hso _ hmem
      have hb1 := hsb _ hmem
      have hstop := hst _ hmem
      have hnext : (((stS es).take (i + 1)).map (chOf es c)).flatten = (((stS es).take i).map (chOf es c)).flatten ++ chOf es c (stS es)[i] := by
        rw [take_snoc hss, List.map_append, List.flatten_append]
        simp
      rw [hnext]
      have hacc := hcl ((stS es).take i)
      have htk := List.length_take_le i (stS es)
      have hch : ∀ s, chOf es c s = if sumLeft (stS es) s.1 s.2.1 c = 0 then [] else chainF es c s.2.1 (sumLeft (stS es) s.1 s.2.1 c) fuel s.1 := fun _ => rfl
      have hT := hch (stS es)[i]
      generalize chOf es c (stS es)[i] = tot at hT
      generalize (stS es)[i] = s at hq ht l1 l2 hb1 hstop hT
      generalize (((stS es).take i).map (chOf es c)).flatten = acc0 at hfo hacc
      refine ⟨t, _, rfl, .of ht, rfl, _, _, rfl, _, _, rfl, _, _, rfl, rfl, ?_⟩
      refine ⟨_, rfl, _, rfl, _, rfl, _, rfl, x, qa, d, ta, n, [], es, s.1, c, s.2.1, rfl, hw.same sm, by omega, hn3, hq, sm _ _ hd, l1, hc, hcz, hb1, hcb, hstr2, fun H5 sm5 => ?_⟩
      generalize sumLeft (stS es) s.1 s.2.1 c = r at hstop hT ⊢
      have s5 := sm.trans sm5
      have ev5 := sm5 _ _ ev3
      have av5 := ecS.allKeep (Same.tups sm5) av3
      have hfo5 := hfo.same sm5
      have hq5 := sm5 _ _ hq
      by_cases hr0 : r = 0
      · rw [if_pos hr0] at hT
        refine ⟨fun _ σ' H' => σ' = _ ∧ H' = H5, ⟨0, rfl, rfl⟩, fun m σ' H' e9 => ?_⟩
        obtain ⟨e91, e92⟩ := e9
        subst e91 e92
        refine ⟨_, rfl, rfl, _, rfl, iteN (neZ_no hr0) ?_⟩
        exact ⟨_, _, _, _, rfl, s5, ev5, av5, by rw [hT, List.append_nil]; exact hfo5⟩
      · rw [if_neg hr0] at hT
        have hstop := hstop hr0
        refine ⟨fun m σ' H' => ∃ pa p y5 acc, σ' = [some (.ref x), some (.ref d), some (.ref fo), some (.ref pa), some (.int (s.2.1 : Int)), y5, some (.int r)] ∧ Same H H' ∧ H' v = some (.lst vv) ∧ ecS.all H' vv (stS es) ∧ IT H' pa p ∧ p.length = n ∧ LsE ecS H' fo acc ∧ acc ++ chainF es c s.2.1 r m p = acc0 ++ tot ∧ Stops es c s.2.1 m p,
          ⟨fuel, qa, s.1, _, acc0, rfl, s5, ev5, av5, hq5, l1, hfo5, by rw [hT], hstop⟩, fun m σ' H' w' => ?_⟩
        obtain ⟨pa, p, y5, acc, rfl, s6, ev6, av6, hp6, hpl, hfo6, heq, hstp⟩ := w'
        cases m with
        | zero => exact hstp.elim
        | succ m =>
          refine ⟨_, rfl, rfl, _, rfl, iteY (neZ_yes hr0) ⟨_, fun σ'' H'' h => ⟨m, Nat.lt_succ_self m, h⟩, ?_⟩⟩
          obtain ⟨vf, evf, avf⟩ := hfo6
          have hal : acc.length < sizeLine := by
            have h1 := congrArg List.length heq
            rw [List.length_append, List.length_append] at h1
            have h2 : tot.length ≤ 400 := by rw [hT]; exact chain_len es c _ _ _ _
            omega
          have hvf2 := avf.length
          refine ⟨_, rfl, .inl ⟨rfl, _, .of evf⟩, _, rfl, _, rfl, _, rfl, by show 3 ≤ sizeLine; omega, fun t2 nt2 => ?_⟩
          have sT : Same H' (upd H' t2 (.tup [.ref pa, .int (s.2.1 : Int), .int r])) := same_new nt2
          refine ⟨fo, vf, _, rfl, rfl, sT _ _ evf, by omega, ?_⟩
          have hpush : LsE ecS _ fo (acc ++ [(p, s.2.1, r)]) := LsE.push (sT _ _ evf) (ecS.allKeep (Same.tups sT) avf) ⟨t2, pa, rfl, sT _ _ hp6, upd_same⟩
          have s7 : Same H (upd (upd H' t2 (.tup [.ref pa, .int (s.2.1 : Int), .int r])) fo (.lst (vf ++ [.ref t2]))) := same_over (s6.trans sT) nf
          have tup7 : STup (upd H' t2 (.tup [.ref pa, .int (s.2.1 : Int), .int r])) _ := stup_lst (acc' := vf ++ [.ref t2]) (sT _ _ evf)
          have hp7 := tup7 _ _ (sT _ _ hp6)
          have ev7 : upd (upd H' t2 (.tup [.ref pa, .int (s.2.1 : Int), .int r])) fo (.lst (vf ++ [.ref t2])) v = some (.lst vv) := by rw [upd_ne hnf]; exact sT _ _ ev6
          have av7 := ecS.allKeep (STup.trans (Same.tups sT) tup7) av6
          generalize upd (upd H' t2 (.tup [.ref pa, .int (s.2.1 : Int), .int r])) fo (.lst (vf ++ [.ref t2])) = H7 at hpush s7 hp7 ev7 av7
          refine ⟨_, rfl, _, rfl, pa, d, p, c, rfl, hp7, s7 _ _ hd, by omega, fun H8 pb sm8 hpb => ?_⟩
          have hpl2 : (addP p c).length = n := by rw [addP_len _ _ (by omega)]; exact hpl
          have s8 := s7.trans sm8
          change IT H8 pb (addP p c) at hpb
          refine ⟨_, rfl, x, dx, _, rfl, s8 _ _ g1, rfl, _, rfl, _, rfl, x, ta, pb, n, [], es, addP p c, s.2.1, rfl, hw.same s8, hR0, hpb, hpl2, l2, fun z => absurd rfl z, fun H9 sm9 => ?_⟩
          refine ⟨rfl, _, rfl, ?_⟩
          have s9 := s8.trans sm9
          have hpush9 := (hpush.same sm8).same sm9
          have ev9 := sm9 _ _ (sm8 _ _ ev7)
          have av9 := ecS.allKeep (Same.tups (sm8.trans sm9)) av7
          change (getE es (addP p c, s.2.1)).getD 0 ≠ 0 ∨ Stops es c s.2.1 m (addP p c) at hstp
          change acc ++ ((p, s.2.1, r) :: (if (getE es (addP p c, s.2.1)).getD 0 ≠ 0 then [] else chainF es c s.2.1 r m (addP p c))) = acc0 ++ tot at heq
          by_cases ha : (getE es (addP p c, s.2.1)).getD 0 = 0
          · rw [if_neg (by simpa using ha)] at heq
            refine iteN (neZ_no ha) ?_
            exact ⟨pb, addP p c, _, acc ++ [(p, s.2.1, r)], rfl, s9, ev9, av9, sm9 _ _ hpb, hpl2, hpush9, by rw [List.append_assoc]; exact heq, hstp.resolve_left (by simpa using ha)⟩
          · rw [if_pos ha] at heq
            refine iteY (neZ_yes ha) ?_
            refine ⟨_, _, _, _, rfl, s9, ev9, av9, ?_⟩
            rw [← heq]
            exact hpush9
    · obtain ⟨y3, y4, y5, y6, rfl, sm, ev3, av3, hfo⟩ := pv
      have e0 : (stS es).take vv.length = stS es := List.take_of_length_le (by rw [av.length]; exact Nat.le_refl _)
      rw [e0, ← summedL_eq] at hfo
      have htot := hcl (stS es)
      rw [← summedL_eq, hsl] at htot
      refine ⟨_, rfl, x, dx, _, rfl, sm _ _ g1, x, dx, _, _, rfl, sm _ _ g1, rfl, _, rfl, ?_⟩
      refine rd_walk (g2.same sm) hR0 hfo (fun s hs => ?_) (fun h => absurd rfl h) (by omega) fun H5 a sm5 hw5 => q _ a (sm.trans sm5) hw5
      rw [summedL_eq] at hs
      obtain ⟨l, hl, hs⟩ := List.mem_flatten.mp hs
      obtain ⟨s0, hs0, rfl⟩ := List.mem_map.mp hl
      obtain ⟨l1, l2⟩ := hso s0 hs0
      unfold chOf at hs
      split at hs
      · cases hs
      · exact chain_ok es hc l2 _ _ _ l1 s hs
end
end K35
/-! text D20 -/
set_option Elab.async false
set_option linter.all false
set_option maxRecDepth 100000
set_option maxHeartbeats 4000000
/-! turned, turner -/
namespace K35
open PySem PySem.Spec PyProof.Rows L2
def gapW (n : Nat) (one other : Wd) (shift : Place) : WE := minusW [] (freeW (zeroP n) other) (freeW shift one)
def sumW (n : Nat) (one other : Wd) (shift : Place) : WE := mkW [] (summedL (gapW n one other shift) (counts n one))
/-- what turned needs -/
structure TurnOk (n : Nat) (one other : Wd) (shift : Place) : Prop where
  b : Bp shift
  len : shift.length = n
  zero : counts n one = zeroP n → (road shift).length ≤ sizeLine
  gb : counts n one ≠ zeroP n → ∀ s ∈ stS (gapW n one other shift), Bp s.1
  stop : counts n one ≠ zeroP n → ∀ s ∈ stS (gapW n one other shift), sumLeft (stS (gapW n one other shift)) s.1 s.2.1 (counts n one) ≠ 0 → Stops (gapW n one other shift) (counts n one) s.2.1 fuel s.1
  end_ : counts n one ≠ zeroP n → ∃ e, endOf n [] (sumW n one other shift) = some e ∧ e.length = n ∧ Bp e ∧ (((stS (sumW n one other shift)).map partOf).flatten ++ road e).length ≤ sizeLine
  part : counts n one ≠ zeroP n → ∀ s ∈ stS (sumW n one other shift), PartOk s
theorem turnedM_eq (n : Nat) (one other : Wd) (shift : Place) : turnedM n one other shift = if counts n one = zeroP n then road shift else wordOf (sumW n one other shift) ((endOf n [] (sumW n one other shift)).getD []) := rfl
theorem minusW_eq (a b : WE) : minusW [] a b = mkW [] (stS a ++ stS (timesW [] b (-1))) := rfl
theorem freeW_len (p : Place) (v : Wd) : (freeW p v).length ≤ v.length := by
  have := mkW_len [] (streetsOf p v)
  rw [streets_len] at this
  exact this
theorem gapW_len (n : Nat) (one other : Wd) (shift : Place) : (gapW n one other shift).length ≤ one.length + other.length := by
  unfold gapW
  rw [minusW_eq]
  have h := mkW_len [] (stS (freeW (zeroP n) other) ++ stS (timesW [] (freeW shift one) (-1)))
  rw [List.length_append, stS_len, stS_len] at h
  have h1 := freeW_len (zeroP n) other
  have h2 := mkW_len2 (freeW shift one) (-1)
  have h3 := freeW_len shift one
  omega
theorem sumW_len (n : Nat) (one other : Wd) (shift : Place) : (sumW n one other shift).length ≤ 400 * (one.length + other.length) := by
  unfold sumW
  have h := mkW_len [] (summedL (gapW n one other shift) (counts n one))
  have h2 := flat_len_le (chOf (gapW n one other shift) (counts n one)) 400 (chOf_len _ _) (stS (gapW n one other shift))
  rw [← summedL_eq, stS_len] at h2
  have h3 := gapW_len n one other shift
  have : 400 * (gapW n one other shift).length ≤ 400 * (one.length + other.length) := Nat.mul_le_mul_left _ h3
  omega
theorem kok_free {n : Nat} (h1 : 1 ≤ n) (h3 : n ≤ 3) {p : Place} {v : Wd} (hp : p.length = n) (hv : WF n v) : KOk n (freeW p v) := kok_mkW (rok0 h1 h3) (streets_ok v p hp hv)
theorem zeroP_len (n : Nat) : (zeroP n).length = n := by simp [zeroP]
theorem kok_gap {n : Nat} (h1 : 1 ≤ n) (h3 : n ≤ 3) {one other : Wd} {shift : Place} (hp : shift.length = n) (ho : WF n one) (hv : WF n other) : KOk n (gapW n one other shift) := by
  unfold gapW
  rw [minusW_eq]
  refine kok_mkW (rok0 h1 h3) fun s hs => ?_
  rcases List.mem_append.mp hs with hs | hs
  · exact sok_stS (kok_free h1 h3 (zeroP_len n) hv) s hs
  · exact sok_stS (kok_times h1 h3 (kok_free h1 h3 hp ho) (-1)) s hs
theorem kok_sum {n : Nat} (h1 : 1 ≤ n) (h3 : n ≤ 3) {one other : Wd} {shift : Place} (hp : shift.length = n) (ho : WF n one) (hv : WF n other) : KOk n (sumW n one other shift) := by
  unfold sumW
  have hk := sok_stS (kok_gap h1 h3 hp ho hv)
  refine kok_mkW (rok0 h1 h3) fun s hs => ?_
  rw [summedL_eq] at hs
  obtain ⟨l, hl, hs⟩ := List.mem_flatten.mp hs
  obtain ⟨s0, hs0, rfl⟩ := List.mem_map.mp hl
  obtain ⟨l1, l2⟩ := hk s0 hs0
  unfold chOf at hs
  split at hs
  · cases hs
  · exact chain_ok _ (counts_len _ _) l2 _ _ _ l1 s hs
theorem counts_z {n : Nat} {v : Wd} (h : counts n v ≠ zeroP n) : isZ (counts n v) = false := by
  rw [isZ_iff (counts_len n v)]
  exact decide_eq_false h
section
variable {P : Program} {w : World} {K : PySem.W.Frag} {mg : Str → Option Value} {base : Heap} {f C CT : Addr} {fd : FuncData}
abbrev s_turned : Stmt := top 49
theorem sc_turned : FnScope ["letters", "one", "other", "shift", "counts", "gap"] ["letters", "one", "other", "shift"] (defScope s_turned) := ⟨rfl, rfl, rfl, by decide +kernel, rfl, by decide +kernel, by decide +kernel⟩
def sp_turned : Sp := fun vs H Q _ => ∃ (L : List Nat) (one other : Wd) (a : Addr) (shift : Place), vs = [.str (lt L), .str (wd L one), .str (wd L other), .ref a] ∧ LG L ∧ WF L.length one ∧ WF L.length other ∧ one.length ≤ 100 ∧ other.length ≤ 100 ∧ IT H a shift ∧ TurnOk L.length one other shift ∧
  ∀ H', Same H H' → Q (.str (wd L (turnedM L.length one other shift))) H'
theorem c_turned {fN fD fF fO fM fW fS pO : Addr} {fdN fdD fdF fdO fdM fdW fdS : FuncData} {mc : Value} {ds : List Value} {gb : List Value → List Value → List Value} {gV : List V → List V → List V} (F : FnP K "turned" "turned" s_turned f fd) (B : Fre mg) (T : WalF K C) (gC : mg "Walk" = some (.ref C))
    (cN : Cal P w K mg base 2 ["word", "letters"] sp_counts_of fN fdN) (gN : mg "counts_of" = some (.ref fN)) (cD : Cal P w K mg base 2 ["letters", "place"] sp_road fD fdD) (gD : mg "road" = some (.ref fD)) (cF : Cal P w K mg base 5 ["letters"] (sp_free CT) fF fdF) (gF : mg "free" = some (.ref fF))
    (rO : ClX.CRead K C mc) (mO : ClX.CMet K C mc "of" pO fO) (cO : FnOk P w K mg base CX0 5 fO fdO ["cls", "table", "word", "letters", "start"] (sp_wof P w CT C)) (bO : Binds K fdO ["cls", "table", "word", "letters", "start"] ds) (vO : Vals [.non] ds)
    (kO : KBn K fdO ["cls", "table", "word", "letters", "start"] 4 ["start"] gb gV) (kV : ∀ a b c d e, gV [a, b, c, d] [e] = [a, b, c, d, e])
    (cM : Cal P w K mg base 6 ["self", "other"] (sp_wmin P w CT C) fM fdM) (mM : Meth K C "minus" fM) (cW : Cal P w K mg base 5 ["letters", "walk"] (sp_word_of P w CT C) fW fdW) (gW : mg "word_of" = some (.ref fW)) (cS : Cal P w K mg base 6 ["walk", "counts"] (sp_summed P w CT C) fS fdS) (gS : mg "summed" = some (.ref fS)) :
    Cal P w K mg base 7 ["letters", "one", "other", "shift"] sp_turned f fd := by
  refine F.cal (F.ok sc_turned (fun vs H Q E h => ?_) (fun cdv A outer s H vs Q E hr h => ?_)) (fun _ _ _ _ _ _ us hl => match us, hl with | [_, _, _, _], _ => rfl)
  · obtain ⟨L, one, other, a, shift, rfl, _⟩ := h
    rfl
  · obtain ⟨L, one, other, a, shift, rfl, lg, ho, hv, hz1, hz2, ha, ok, q⟩ := h
    have nd := sc_turned.nd
    refine ⟨_, PSs.nox (pss_cons (ps_set (i := 4) nd rfl (.inl rfl) (pe_cal cN (hr.mono (by decide)) rfl gN (pa_cons (pv 1) (pa_cons (pv 0) pa_nil)))) (pss_cons (ps_if (pt_cmpR (op_eqD hr.units) (pv 4) (pe_op op_repZ (pe_tup (pa_cons pe_int pa_nil)) (pe_callB call_len_str (by rfl) B.len PySem.boot_len (pa_cons (pv 0) pa_nil))) (nomark _)) (pss_one (ps_ret (pe_cal cD (hr.mono (by decide)) rfl gD (pa_cons (pv 0) (pa_cons (pv 3) pa_nil))))) pss_nil) (pss_cons (ps_set (i := 5) nd rfl (.inl rfl) (pe_mcal cM T.cl mM hr (ClX.pe_cmeth (pe_glob (v := .ref C) rfl gC rfl) rO mO (cO.raw bO vO) (hr.mono (by decide)) pass0 (pa_cons (pe_cal cF (hr.mono (by decide)) rfl gF (pa_cons (pv 0) pa_nil)) (pa_cons (pv 2) (pa_cons (pv 0) pa_nil)))) (pa_cons (pe_cmethK (pe_glob (v := .ref C) rfl gC rfl) rO mO cO (hr.mono (by decide)) kO pass0 (pa_cons (pe_cal cF (hr.mono (by decide)) rfl gF (pa_cons (pv 0) pa_nil)) (pa_cons (pv 1) (pa_cons (pv 0) pa_nil))) (pk_cons (pv 3) pk_nil)) pa_nil))) (pss_one (ps_ret (pe_cal cW (hr.mono (by decide)) rfl gW (pa_cons (pv 0) (pa_cons (pe_cal cS hr rfl gS (pa_cons (pv 5) (pa_cons (pv 4) pa_nil))) pa_nil)))))))), ?_⟩
    have hs1 : (1000000 : Nat) < sizeLine := by decide
    have hn1 := lg.pos
    have hn3 := lg.le
    have hltl : (lt L).length = L.length := lt_size L
    rw [turnedM_eq] at q
    refine ⟨_, rfl, _, rfl, L, one, lg, ho, rfl, fun H1 c sm1 hc => ?_⟩
    refine ⟨_, rfl, by show 1 ≤ sizeLine; omega, fun t nt => ⟨_, rfl, _, rfl, by rw [hltl]; omega, t, _, _, rfl, rfl, upd_same, by simp, by rw [hltl]; omega, by rw [hltl]; omega, by show 1 ≤ 1000; decide, fun z H2 sm2 hz => ?_⟩⟩
    rw [hltl, Int.toNat_natCast, rep_zero] at hz
    have s12 := (same_new nt).trans sm2
    refine rd_eqP (s12 _ _ hc) hz ⟨_, rfl, ?_⟩
    have s2 := sm1.trans s12
    by_cases hcz : counts L.length one = zeroP L.length
    · rw [if_pos hcz] at q
      refine iteY (decide_eq_true hcz) ?_
      exact ⟨_, rfl, _, rfl, L, a, shift, lg, ok.len, ok.b, ok.zero hcz, rfl, s2 _ _ ha, fun H3 sm3 => q _ (s2.trans sm3)⟩
    · rw [if_neg hcz] at q
      refine iteN (decide_eq_false hcz) ?_
      have hgl := gapW_len L.length one other shift
      have hsl := sumW_len L.length one other shift
      refine ⟨rfl, ?_⟩
      refine ⟨_, rfl, L, lg, rfl, fun H3 ta sm3 hta => ?_⟩
      refine ⟨_, rfl, _, rfl, ta, L, other, .non, [], zeroP L.length, rfl, lg, hv, by omega, hta, rok0 hn1 hn3, zeroP_len _, .inl ⟨rfl, rfl⟩, fun h => absurd rfl h, fun H4 wa sm4 hwa => ?_⟩
      have s4 := s2.trans (sm3.trans sm4)
      obtain ⟨dxa, kda, ida, ha1, _⟩ := hwa.ins
      refine ⟨wa, dxa, _, rfl, ha1, rfl, ?_⟩
      refine ⟨rfl, ?_⟩
      refine ⟨_, rfl, L, lg, rfl, fun H5 tb sm5 htb => ?_⟩
      refine ⟨_, rfl, _, rfl, _, rfl, rfl, rfl, ?_⟩
      rw [kV]
      refine ⟨tb, L, one, .ref a, [], shift, rfl, lg, ho, by omega, htb, rok0 hn1 hn3, ok.len, .inr ⟨a, rfl, sm5 _ _ (s4 _ _ ha)⟩, fun h => absurd rfl h, fun H6 wb sm6 hwb => ?_⟩
      have hwa6 := hwa.same (sm5.trans sm6)
      have hfl1 := freeW_len (zeroP L.length) other
      have hfl2 := freeW_len shift one
      refine ⟨wa, wb, ta, tb, L.length, _, _, rfl, hwa6, hwb, hn1, hn3, kok_free hn1 hn3 (zeroP_len _) hv, kok_free hn1 hn3 ok.len ho, by show (freeW _ _).length + (freeW _ _).length < _; omega, fun H7 wg sm7 hwg => ?_⟩
      have s7 := s4.trans (sm5.trans (sm6.trans sm7))
      change WkAt P w CT C H7 wg ta L.length [] (gapW L.length one other shift) at hwg
      have hc7 : IT H7 c (counts L.length one) := sm7 _ _ (sm6 _ _ (sm5 _ _ (sm4 _ _ (sm3 _ _ (s12 _ _ hc)))))
      refine ⟨_, rfl, _, rfl, _, rfl, wg, c, ta, L.length, gapW L.length one other shift, counts L.length one, rfl, hwg, kok_gap hn1 hn3 ok.len ho hv, by omega, hn1, hn3, hc7, counts_len _ _, counts_z hcz, (counts_bd _ _).bp (by omega), ok.gb hcz, ok.stop hcz, fun H8 ws sm8 hws => ?_⟩
      change WkAt P w CT C H8 ws ta L.length [] (sumW L.length one other shift) at hws
      obtain ⟨e, he1, he2, he3, he4⟩ := ok.end_ hcz
      refine ⟨ws, ta, L, sumW L.length one other shift, e, rfl, lg, hws, kok_sum hn1 hn3 ok.len ho hv, by omega, he1, he2, he3, ok.part hcz, he4, fun H9 sm9 => ?_⟩
      rw [he1] at q
      exact q _ (s7.trans (sm8.trans sm9))
/-! turner -/
/-- what turner needs -/
def TurnerOk (n : Nat) (one other : Wd) : Prop := counts n one = counts n other → ∀ d ∈ shiftsM (stS (rolledW n one)) (stS (rolledW n other)), d.length = n ∧ (nrmR (counts n one) ≠ [] → ∀ s ∈ stS (rolledW n one), Bp (addP s.1 d)) ∧ (stS (movedW (nrmR (counts n one)) (rolledW n one) d) = stS (rolledW n other) → TurnOk n one other d)
abbrev s_turner : Stmt := top 48
theorem sc_turner : FnScope ["letters", "one", "other", "counts", "left", "right", "shift"] ["letters", "one", "other"] (defScope s_turner) := ⟨rfl, rfl, rfl, by decide +kernel, rfl, by decide +kernel, by decide +kernel⟩
def ans (L : List Nat) : Option Wd → V
  | none => .non
  | some w => .str (wd L w)
def sp_turner : Sp := fun vs H Q _ => ∃ (L : List Nat) (one other : Wd), vs = [.str (lt L), .str (wd L one), .str (wd L other)] ∧ LG L ∧ WF L.length one ∧ WF L.length other ∧ one.length ≤ 100 ∧ other.length ≤ 100 ∧ TurnerOk L.length one other ∧ ∀ H', Same H H' → Q (ans L (turnerM L.length one other)) H'
theorem turnerM_eq (n : Nat) (one other : Wd) : turnerM n one other = if counts n one ≠ counts n other then none else if rolledW n one = [] then (if rolledW n other = [] then some [] else none) else
    match (shiftsM (stS (rolledW n one)) (stS (rolledW n other))).find? fun d => decide (stS (movedW (nrmR (counts n one)) (rolledW n one) d) = stS (rolledW n other)) with
    | some d => some (turnedM n one other d)
    | none => none := rfl
theorem InC.of {H : Hp} {P : Program} {w : World} {CT C : Addr} {a ta : Addr} {n : Nat} {R : List Place} {es : WE} (h : WkAt P w CT C H a ta n R es) : InC H a C := by
  obtain ⟨dx, kd, id, h1, _⟩ := h.ins
  exact ⟨_, _, h1⟩
theorem rolled_len (n : Nat) (v : Wd) : (rolledW n v).length ≤ v.length := by
  have := mkW_len (nrmR (counts n v)) (streetsOf (zeroP n) v)
  rw [streets_len] at this
  exact this
theorem c_turner {fCW fN fR fH fV fT fB fE : Addr} {fdN fdR fdH fdV fdT fdB fdE : FuncData} (F : FnP K "turner" "turner" s_turner f fd) (T : WalF K C)
    (cCW : FnR P w K mg base CX0 2 fCW sp_check_words) (kCW : PySem.W.keepIn K (.ref fCW) = true) (gCW : mg "check_words" = some (.ref fCW)) (cN : Cal P w K mg base 2 ["word", "letters"] sp_counts_of fN fdN) (gN : mg "counts_of" = some (.ref fN))
    (cR : Cal P w K mg base 6 ["letters", "word"] (sp_rolled P w CT C) fR fdR) (gR : mg "rolled" = some (.ref fR)) (cH : Cal P w K mg base 2 ["one", "other"] (sp_shifts P w C CT) fH fdH) (gH : mg "shifts" = some (.ref fH))
    (cV : Cal P w K mg base 5 ["self", "counts"] (sp_wmov P w CT C) fV fdV) (mV : Meth K C "moved" fV) (cT : Cal P w K mg base 7 ["letters", "one", "other", "shift"] sp_turned fT fdT) (gT : mg "turned" = some (.ref fT))
    (cB : Cal P w K mg base 1 ["self"] (sp_wbool P w CT C) fB fdB) (iB : PySem.W.findIn K (.ref C) "__bool__" = some (some (.ref fB))) (jB : PySem.W.isFn K (.ref fB) = true) (eC : EqC K C fE) (cE : Cal P w K mg base 1 ["self", "other"] (sp_weq P w CT C) fE fdE) :
    Cal P w K mg base 8 ["letters", "one", "other"] sp_turner f fd := by
  refine F.cal (F.ok sc_turner (fun vs H Q E h => ?_) (fun cdv A outer s H vs Q E hr h => ?_)) (fun _ _ _ _ _ _ us hl => match us, hl with | [_, _, _], _ => rfl)
  · obtain ⟨L, one, other, rfl, _⟩ := h
    rfl
  · obtain ⟨L, one, other, rfl, lg, ho, hv, hz1, hz2, ok, q⟩ := h
    have nd := sc_turner.nd
    refine ⟨_, PSs.nox (pss_cons (ps_expr (pe_calR cCW kCW (hr.mono (by decide)) rfl gCW (pa_cons (pv 0) (pa_cons (pv 1) (pa_cons (pv 2) pa_nil))))) (pss_cons (ps_set (i := 3) nd rfl (.inl rfl) (pe_cal cN (hr.mono (by decide)) rfl gN (pa_cons (pv 1) (pa_cons (pv 0) pa_nil)))) (pss_cons (ps_if (pt_cmpR (op_neD hr.units) (pv 3) (pe_cal cN (hr.mono (by decide)) rfl gN (pa_cons (pv 2) (pa_cons (pv 0) pa_nil))) (nomark _)) (pss_one (ps_ret pe_non)) pss_nil) (pss_cons (ps_par (i := 4) (j := 5) rfl nd rfl rfl (by decide) rfl rfl (pa_cons (pe_cal cR (hr.mono (by decide)) rfl gR (pa_cons (pv 0) (pa_cons (pv 1) pa_nil))) (pa_cons (pe_cal cR (hr.mono (by decide)) rfl gR (pa_cons (pv 0) (pa_cons (pv 2) pa_nil))) pa_nil)) (by rfl)) (pss_cons (ps_if (pt_not (pt_truC iB jB cB.F (hr.mono (by decide)) cB.b pass0 (pv 4) (by intro _; rfl))) (pss_one (ps_ret (pe_ifExp (pt_truC iB jB cB.F (hr.mono (by decide)) cB.b pass0 (pv 5) (by intro _; rfl)) pe_non pe_str))) pss_nil) (pss_cons (ps_for PassesOwn.never rfl (pi_list (pe_cal cH (hr.mono (by decide)) rfl gH (pa_cons (pv 4) (pa_cons (pv 5) pa_nil)))) (pg_name (i := 6) nd rfl (.inl rfl)) (pss_one (ps_if (pt_cmpR (op_eqC eC cE.F (hr.mono (by decide)) cE.b pass0) (pe_mcal cV T.cl mV (hr.mono (by decide)) (pv 4) (pa_cons (pv 6) pa_nil)) (pv 5) (nomark _)) (pss_one (ps_ret (pe_cal cT hr rfl gT (pa_cons (pv 0) (pa_cons (pv 1) (pa_cons (pv 2) (pa_cons (pv 6) pa_nil))))))) pss_nil))) (pss_one (ps_ret pe_non)))))))), ?_⟩
    have hs1 : (1000000 : Nat) < sizeLine := by decide
    have hn1 := lg.pos
    have hn3 := lg.le
    rw [turnerM_eq] at q
    refine ⟨_, rfl, _, rfl, _, rfl, L, [one, other], lg, fun y hy => ?_, by show 2 ≤ 2; decide, rfl, fun H1 sm1 => ?_⟩
    · rcases List.mem_cons.mp hy with rfl | hy
      · exact ⟨ho, by omega⟩
      · rw [List.mem_singleton.mp hy]
        exact ⟨hv, by omega⟩
    refine ⟨_, rfl, _, rfl, L, one, lg, ho, rfl, fun H2 c sm2 hc => ?_⟩
    refine ⟨_, rfl, _, rfl, _, rfl, L, other, lg, hv, rfl, fun H3 c2 sm3 hc2 => ?_⟩
    refine rd_neP (sm3 _ _ hc) hc2 ⟨_, rfl, ?_⟩
    have s3 := sm1.trans (sm2.trans sm3)
    by_cases hcc : counts L.length one = counts L.length other
    · rw [if_neg (by simpa using hcc)] at q
      have ok := ok hcc
      refine iteN (by rw [decide_eq_true hcc]; rfl) ?_
      refine ⟨_, rfl, _, rfl, L, one, lg, ho, by omega, rfl, fun H4 wl tl sm4 hl => ?_⟩
      refine ⟨_, rfl, _, rfl, L, other, lg, hv, by omega, rfl, fun H5 wr tr sm5 hrr => ?_⟩
      rw [← hcc] at hrr
      have hl5 := hl.same sm5
      have s5 := s3.trans (sm4.trans sm5)
      refine ⟨_, _, rfl, ?_⟩
      refine ⟨_, rfl, wl, rfl, InC.of hl5, wl, tl, L.length, _, _, rfl, hl5, _, rfl, ?_⟩
      have hll := rolled_len L.length one
      have hlr := rolled_len L.length other
      have hRo := rok_nrm (counts_len L.length one) (counts_bd L.length one) (by omega) hn1 hn3
      have hkl : KOk L.length (rolledW L.length one) := kok_mkW hRo (streets_ok _ _ (zeroP_len _) ho)
      have hkr : KOk L.length (rolledW L.length other) := by
        have := kok_mkW hRo (streets_ok other (zeroP L.length) (zeroP_len _) hv)
        unfold rolledW
        rw [← hcc]
        exact this
      generalize rolledW L.length one = l at hl5 q ok hll hkl
      generalize rolledW L.length other = r at hrr q ok hlr hkr
      by_cases hln : l = []
      · rw [if_pos hln] at q
        refine iteY (by rw [hln]; rfl) ?_
        refine ⟨_, rfl, wr, rfl, InC.of hrr, wr, tr, L.length, _, _, rfl, hrr, _, rfl, ?_⟩
        by_cases hrn : r = []
        · rw [if_pos hrn] at q
          exact iteN (by rw [hrn]; rfl) (q _ s5)
        · rw [if_neg hrn] at q
          exact iteY (by simpa using hrn) (q _ s5)
      · rw [if_neg hln] at q
        refine iteN (by simpa using hln) ?_
        refine ⟨_, rfl, _, rfl, wl, wr, tl, tr, L.length, _, _, l, r, rfl, hl5, hrr, hkl, hkr, hn3, by omega, by omega, hln, fun H6 b sm6 hb => ?_⟩
        obtain ⟨vb, eb, ab⟩ := hb
        have s6 := s5.trans sm6
        refine ⟨b, rfl, ⟨_, .of eb⟩, ?_⟩
        refine for_it walk_list (fun i σ H7 => ∃ y6, σ = [some (.str (lt L)), some (.str (wd L one)), some (.str (wd L other)), some (.ref c), some (.ref wl), some (.ref wr), y6] ∧ Same H6 H7 ∧ ∀ d ∈ (shiftsM (stS l) (stS r)).take i, ¬ stS (movedW (nrmR (counts L.length one)) l d) = stS r)
          ⟨_, rfl, Same.refl _, fun d hd => nomatch hd⟩ (fun i σ H7 _ ⟨_, _, sm, _⟩ => .of (sm _ _ eb)) (fun i y σ H7 H8 hi pv yy => ?_) (fun σ H7 pv => ?_)
        · obtain ⟨y6, rfl, sm, hno⟩ := pv
          obtain ⟨rfl, e⟩ := yy
          have hi' : i < (shiftsM (stS l) (stS r)).length := by rw [← ab.length]; exact hi
          have hss : (shiftsM (stS l) (stS r))[i]? = some (shiftsM (stS l) (stS r))[i] := by simp [hi']
          obtain ⟨da, rfl, hda⟩ := LsE.walk ab (Same.tups sm) e hss
          have hmem := List.getElem_mem hi'
          obtain ⟨okl, okb, okt⟩ := ok _ hmem
          generalize (shiftsM (stS l) (stS r))[i] = d at hss hda hmem okl okb okt
          have hl8 := hl5.same (sm6.trans sm)
          obtain ⟨dxl, kdl, idl, hl81, _⟩ := hl8.ins
          refine ⟨_, rfl, wl, dxl, _, rfl, hl81, rfl, _, rfl, wl, da, tl, L.length, nrmR (counts L.length one), l, d, rfl, hl8, hRo, hkl, hda, okl, okb, by omega, fun H9 wm sm9 hwm => ?_⟩
          have hr9 := hrr.same (sm6.trans (sm.trans sm9))
          refine ⟨_, rfl, wm, wr, rfl, rfl, InC.of hwm, InC.of hr9, wm, tl, wr, tr, L.length, L.length, _, _, _, _, rfl, hwm, hr9, _, rfl, ?_⟩
          by_cases hm : stS (movedW (nrmR (counts L.length one)) l d) = stS r
          · refine iteY (by rw [decide_eq_true hm]; simp) ?_
            have hf : (shiftsM (stS l) (stS r)).find? (fun d => decide (stS (movedW (nrmR (counts L.length one)) l d) = stS r)) = some d := by
              rw [List.find?_eq_some_iff_getElem]
              refine ⟨decide_eq_true hm, i, hi', ?_, fun j hj => ?_⟩
              · have := List.getElem?_eq_getElem hi'
                rw [hss] at this
                exact (Option.some.inj this).symm
              · have hj' : j < (shiftsM (stS l) (stS r)).length := by omega
                have := hno _ (by rw [List.mem_take_iff_getElem]; exact ⟨j, by omega, rfl⟩)
                simpa using this
            rw [hf] at q
            have s9 := s6.trans (sm.trans sm9)
            exact ⟨_, rfl, _, rfl, _, rfl, _, rfl, L, one, other, da, d, rfl, lg, ho, hv, hz1, hz2, sm9 _ _ hda, okt hm, fun H10 sm10 => q _ (s9.trans sm10)⟩
          · refine iteN (by rw [decide_eq_false hm]; simp) ?_
            refine ⟨_, rfl, sm.trans sm9, fun d' hd' => ?_⟩
            rw [take_snoc hss] at hd'
            rcases List.mem_append.mp hd' with h | h
            · exact hno d' h
            · rw [List.mem_singleton.mp h]
              exact hm
        · obtain ⟨y6, rfl, sm, hno⟩ := pv
          have e0 : (shiftsM (stS l) (stS r)).take vb.length = shiftsM (stS l) (stS r) := List.take_of_length_le (by rw [ab.length]; exact Nat.le_refl _)
          rw [e0] at hno
          have hf : (shiftsM (stS l) (stS r)).find? (fun d => decide (stS (movedW (nrmR (counts L.length one)) l d) = stS r)) = none := by
            rw [List.find?_eq_none]
            intro d hd
            simpa using hno d hd
          rw [hf] at q
          exact q _ (s6.trans sm)
    · rw [if_pos (by simpa using hcc)] at q
      exact iteY (by rw [decide_eq_false hcc]; rfl) (q _ s3)
end
end K35
/-! text D21 -/
set_option Elab.async false
set_option linter.all false
set_option maxRecDepth 100000
set_option maxHeartbeats 4000000
/-! the law's draws -/
namespace K35
open PySem PySem.Spec PyProof.Rows L2
/-- the law's box -/
def BxAt (ma : Addr) (H : Hp) (b : Addr) : Prop := ∃ (xs : List Int) (i : Nat) (g z : Int), H b = some (.lst [.ref ma, .int (i : Int), .int g, .int z]) ∧ H ma = some (.lst (xs.map V.int)) ∧ ma ≠ b ∧ i ≤ xs.length ∧ xs.length ≤ 63 ∧ 0 ≤ g ∧ 0 ≤ z ∧ z < 2147483647
theorem BxAt.same {H H' : Hp} {b ma : Addr} (h : BxAt ma H b) (s : Same H H') : BxAt ma H' b := by
  obtain ⟨xs, i, g, z, h1, h2, h3⟩ := h
  exact ⟨xs, i, g, z, s _ _ h1, s _ _ h2, h3⟩
theorem BxAt.put {H : Hp} {b ma : Addr} {xs : List Int} {i : Nat} {g z : Int} (h2 : H ma = some (.lst (xs.map V.int))) (hne : ma ≠ b) (hi : i ≤ xs.length) (hx : xs.length ≤ 63) (hg : 0 ≤ g) (hz : 0 ≤ z) (hz1 : z < 2147483647) :
    BxAt ma (upd H b (.lst [.ref ma, .int (i : Int), .int g, .int z])) b := ⟨xs, i, g, z, upd_same, by rw [upd_ne hne]; exact h2, hne, hi, hx, hg, hz, hz1⟩
section
variable {P : Program} {w : World} {K : PySem.W.Frag} {mg : Str → Option Value} {base : Heap} {f : Addr} {fd : FuncData}
abbrev s__law_begin : Stmt := top 51
theorem sc__law_begin : FnScope ["_law_script", "_law_marks", "_law_cell", "_law_seed"] ["_law_script"] (defScope s__law_begin) := ⟨rfl, rfl, rfl, by decide +kernel, rfl, by decide +kernel, by decide +kernel⟩
def sp__law_begin (K : PySem.W.Frag) : Sp := fun vs H Q _ => ∃ (a : Addr) (xs : List Int), vs = [.ref a] ∧ SqL K H a (xs.map V.int) ∧ ∀ H' b ma, Same H H' → BxAt ma H' b → Q (.ref b) H'
theorem c__law_begin (F : FnP K "_law_begin" "_law_begin" s__law_begin f fd) (B : Fre mg) : Cal P w K mg base 1 ["_law_script"] (sp__law_begin K) f fd := by
  refine F.cal (F.ok sc__law_begin (fun vs H Q E h => ?_) (fun cdv A outer s H vs Q E hr h => ?_)) (fun _ _ _ _ _ _ us hl => match us, hl with | [_], _ => rfl)
  · obtain ⟨a, xs, rfl, _⟩ := h
    rfl
  · obtain ⟨a, xs, rfl, ha, q⟩ := h
    have nd := sc__law_begin.nd
    refine ⟨_, PSs.nox (pss_cons (ps_setLc (i := 1) (own := [("_law_cell", 2)]) (g := gName 2) (tt := tYes) rfl nd rfl rfl (sw_true rfl rfl rfl (by decide +kernel)) (pi_list (pe_slice sl_list (pv 0) po_none (po_some pe_int))) (blkOk_by (N := ["_law_script", "_law_marks", "_law_cell", "_law_seed"]) (sc := defScope s__law_begin) (by decide +kernel)) (fun _ _ _ _ _ => (pg_name (i := 2) nd rfl (.inl rfl))) (fun _ _ _ _ _ => pts_nil) (fun _ _ _ _ _ => (pe_callTy call_int1 (by rfl) B.int (by decide +kernel) (pa_cons (pv 2) pa_nil)))) (pss_cons (ps_set (i := 3) nd rfl (.inl rfl) (pe_op op_add pe_int (pe_op op_mul pe_int (pe_callB call_len_seq (by rfl) B.len PySem.boot_len (pa_cons (pv 1) pa_nil))))) (pss_cons (ps_for PassesOwn.never rfl (pi_list (pv 1)) (pg_name (i := 2) nd rfl (.inl rfl)) (pss_one (ps_set (i := 3) nd rfl (.inl rfl) (pe_op op_mod (pe_op op_add (pe_op op_add (pe_op op_mul (pv 3) pe_int) (pe_op op_mod (pe_callTy call_int1 (by rfl) B.int (by decide +kernel) (pa_cons (pv 2) pa_nil)) pe_int)) pe_int) pe_int)))) (pss_one (ps_ret (pe_lst (pa_cons (pv 1) (pa_cons pe_int (pa_cons pe_int (pa_cons (pv 3) pa_nil)))))))))), ?_⟩
    have h63 : (63 : Nat) ≤ sizeLine := by decide
    refine ⟨_, rfl, _, rfl, a, _, rfl, ha, fun p np => ?_⟩
    have s1 := same_new (o := .lst (cutV (xs.map V.int) none (some 63))) np
    have ec : cutV (xs.map V.int) none (some 63) = (xs.take 63).map V.int := by
      unfold cutV
      rw [show HT.sIx (xs.map V.int).length (xs.map V.int).length (some (63 : Int)) = min 63 (xs.map V.int).length from HT.sIx_nat (xs.map V.int).length (xs.map V.int).length 63, HT.sIx_none]
      simp
    have hp := upd_same (H := H) (a := p) (o := .lst (cutV (xs.map V.int) none (some 63)))
    rw [ec] at hp s1 ⊢
    generalize upd H p (.lst ((xs.take 63).map V.int)) = H1 at s1 hp
    have hl := List.length_take_le 63 xs
    generalize xs.take 63 = ys at hp hl
    refine ⟨p, rfl, ⟨_, .of hp⟩, fun D nD => ?_⟩
    refine lc_gen walk_list ecI ys (fun x => some x) nD (by rw [List.length_map]) (by rw [List.length_map]; omega) (fun H2 sm => .of (sm _ _ hp)) (fun i x H2 H' b hb sm y N1 N0 k1 k0 => ?_) (fun H2 sm hl2 => ?_)
    · obtain ⟨rfl, e⟩ := y
      rw [List.getElem?_map, hb] at e
      have e := Option.some.inj e
      subst e
      exact ⟨rfl, _, rfl, .inl ⟨b, rfl, k1 _ _ _ rfl rfl (Same.refl _)⟩⟩
    · rw [fm_some, List.map_id'] at hl2
      have hD := hl2.ints
      refine ⟨_, rfl, D, _, rfl, .inl (.of hD), _, _, rfl, rfl, .inl (by decide), _, _, rfl, rfl, ?_⟩
      refine ⟨_, rfl, D, rfl, ⟨_, .of hD⟩, ?_⟩
      refine for_it walk_list (fun i σ H3 => ∃ (y2 : Option V) (z : Int), σ = [some (.ref a), some (.ref D), y2, some (.int z)] ∧ H3 = H2 ∧ 0 ≤ z ∧ z < 2147483647) ⟨_, _, rfl, rfl, by rw [List.length_map]; constructor <;> omega⟩ (fun i σ H3 _ ⟨_, _, _, e, _⟩ => by rw [e]; exact .of hD) (fun i x σ H3 H' hi pv y => ?_) (fun σ H3 pv => ?_)
      · obtain ⟨y2, z, rfl, rfl, hz0, hz1⟩ := pv
        obtain ⟨rfl, e⟩ := y
        rw [List.getElem?_map] at e
        cases e2 : ys[i]? with
        | none => rw [e2] at e; cases e
        | some v =>
          rw [e2] at e
          have e := Option.some.inj e
          subst e
          refine ⟨_, rfl, _, _, rfl, rfl, .inr (by decide), _, rfl, .inl ⟨v, rfl, _, _, rfl, rfl, by show (0 : Int) < _; decide, _, _, rfl, rfl, _, _, rfl, rfl, _, _, rfl, rfl, by show (0 : Int) < _; decide, ?_⟩⟩
          exact ⟨_, _, rfl, rfl, Int.emod_nonneg _ (by decide), Int.emod_lt_of_pos _ (by decide)⟩
      · obtain ⟨y2, z, rfl, rfl, hz0, hz1⟩ := pv
        refine ⟨_, rfl, _, rfl, by show 4 ≤ sizeLine; decide, fun t nt => ?_⟩
        have st := same_new (o := .lst [.ref D, .int 0, .int 0, .int z]) nt
        exact q _ t D ((s1.trans sm).trans st) ⟨ys, 0, 0, z, upd_same, st _ _ hD, ne_of_none hD nt, Nat.zero_le _, hl, by decide, hz0, hz1⟩
/-! _law_draw -/
abbrev s__law_draw : Stmt := top 52
theorem sc__law_draw : FnScope ["_law_box", "_law_many", "_law_cell", "_law_digit", "_law_seed"] ["_law_box", "_law_many"] (defScope s__law_draw) := ⟨rfl, rfl, rfl, by decide +kernel, rfl, by decide +kernel, by decide +kernel⟩
/-- all but b as before -/
def SameB (b : Addr) (H H' : Hp) : Prop := SameX b H H'
def sp__law_draw : Sp := fun vs H Q _ => ∃ (b ma : Addr) (m : Int), vs = [.ref b, .int m] ∧ BxAt ma H b ∧ 1 ≤ m ∧ m ≤ 1000 ∧ ∀ H' d, SameX b H H' → BxAt ma H' b → 0 ≤ d → d < m → Q (.int d) H'
theorem c__law_draw (F : FnP K "_law_draw" "_law_draw" s__law_draw f fd) (B : Fre mg) : Cal P w K mg base 1 ["_law_box", "_law_many"] sp__law_draw f fd := by
  refine F.cal (F.ok sc__law_draw (fun vs H Q E h => ?_) (fun cdv A outer s H vs Q E hr h => ?_)) (fun _ _ _ _ _ _ us hl => match us, hl with | [_, _], _ => rfl)
  · obtain ⟨b, ma, m, rfl, _⟩ := h
    rfl
  · obtain ⟨b, ma, m, rfl, hB, hm0, hm1, q⟩ := h
    have nd := sc__law_draw.nd
    refine ⟨_, PSs.nox (pss_cons (ps_if (PW.pt (pw_and (pt_cmpR op_eq (pe_ix ix_list (pv 0) pe_int (fun _ _ => rfl)) pe_int (nomark _)) (pw_and1 (pt_cmpR op_lt (pe_ix ix_list (pv 0) pe_int (fun _ _ => rfl)) (pe_callB call_len_seq (by rfl) B.len PySem.boot_len (pa_cons (pe_ix ix_list (pv 0) pe_int (fun _ _ => rfl)) pa_nil)) (nomark _))))) (pss_cons (ps_set (i := 2) nd rfl (.inl rfl) (pe_ix ix_list (pe_ix ix_list (pv 0) pe_int (fun _ _ => rfl)) (pe_ix ix_list (pv 0) pe_int (fun _ _ => rfl)) (fun _ _ => rfl))) (pss_cons (ps_asg (pe_op op_add (pe_ix ix_list (pv 0) pe_int (fun _ _ => rfl)) pe_int) (pg_sub (pv 0) pe_int set_list)) (pss_one (ps_if (pt_cmpR op_ge (pv 2) (pe_op op_pow pe_int pe_int) (nomark _)) (pss_one (ps_asg (pv 2) (pg_sub (pv 0) pe_int set_list))) (pss_one (ps_asg (pe_op op_mod (pe_op op_add (pe_op op_add (pe_op op_mul (pe_ix ix_list (pv 0) pe_int (fun _ _ => rfl)) pe_int) (pe_op op_mul (pe_op op_mod (pe_callTy call_int1 (by rfl) B.int (by decide +kernel) (pa_cons (pv 2) pa_nil)) pe_int) pe_int)) pe_int) pe_int) (pg_sub (pv 0) pe_int set_list))))))) pss_nil) (pss_cons (ps_if (pt_cmpR op_gt (pe_ix ix_list (pv 0) pe_int (fun _ _ => rfl)) pe_int (nomark _)) (pss_cons (ps_set (i := 3) nd rfl (.inl rfl) (pe_op op_mod (pe_callTy call_int1 (by rfl) B.int (by decide +kernel) (pa_cons (pe_ix ix_list (pv 0) pe_int (fun _ _ => rfl)) pa_nil)) (pv 1))) (pss_cons (ps_asg (pe_op op_fdivN (pe_ix ix_list (pv 0) pe_int (fun _ _ => rfl)) (pv 1)) (pg_sub (pv 0) pe_int set_list)) (pss_one (ps_ret (pv 3))))) pss_nil) (pss_cons (ps_set (i := 4) nd rfl (.inl rfl) (pe_ix ix_list (pv 0) pe_int (fun _ _ => rfl))) (pss_cons (ps_asg (pe_op op_mod (pe_op op_add (pe_op op_add (pe_op op_mul (pv 4) (pv 4)) (pe_op op_mul (pv 4) pe_int)) pe_int) pe_int) (pg_sub (pv 0) pe_int set_list)) (pss_one (ps_ret (pe_op op_mod (pe_op op_add (pe_op op_fdiv (pe_ix ix_list (pv 0) pe_int (fun _ _ => rfl)) pe_int) (pe_op op_mul (pe_op op_mod (pe_callTy call_int1 (by rfl) B.int (by decide +kernel) (pa_cons (pe_ix ix_list (pv 0) pe_int (fun _ _ => rfl)) pa_nil)) pe_int) pe_int)) (pv 1)))))))), ?_⟩
    obtain ⟨xs, i, g, z, hb, hma, hne, hi, hx, hg, hz0, hz1⟩ := hB
    refine ⟨_, rfl, b, _, 2, _, rfl, rfl, .of hb, atI_nat (j := 2) rfl, rfl, _, rfl, ?_⟩
    have hlen : (xs.map V.int).length = xs.length := List.length_map ..
    by_cases c1 : g = 0
    · refine iteY (eqZ_yes c1) ?_
      refine ⟨_, rfl, b, _, 1, _, rfl, rfl, .of hb, atI_nat (j := 1) rfl, _, rfl, b, _, 0, _, rfl, rfl, .of hb, atI_nat (j := 0) rfl, ma, _, rfl, .inl (.of hma), _, _, rfl, rfl, _, rfl, ?_⟩
      by_cases c2 : i < xs.length
      · refine iteY (decide_eq_true (by rw [hlen]; omega)) ?_
        obtain ⟨v, hv⟩ : ∃ v, xs[i]? = some v := ⟨xs[i], by simp [c2]⟩
        have hv' : (xs.map V.int)[i]? = some (.int v) := by rw [List.getElem?_map, hv]; rfl
        refine ⟨_, rfl, b, _, 0, _, rfl, rfl, .of hb, atI_nat (j := 0) rfl, _, rfl, b, _, 1, _, rfl, rfl, .of hb, atI_nat (j := 1) rfl, ma, _, _, _, rfl, rfl, .of hma, atI_nat hv', ?_⟩
        refine ⟨_, rfl, b, _, 1, _, rfl, rfl, .of hb, atI_nat (j := 1) rfl, _, _, rfl, rfl, _, rfl, b, _, 1, 1, rfl, rfl, hb, rfl, ?_⟩
        have hb0 := upd_same (H := H) (a := b) (o := .lst [.ref ma, .int ((i + 1 : Nat) : Int), .int g, .int z])
        have hma0 : (upd H b (.lst [.ref ma, .int ((i + 1 : Nat) : Int), .int g, .int z])) ma = some (.lst (xs.map V.int)) := by rw [upd_ne hne]; exact hma
        have sx0 : SameX b H (upd H b (.lst [.ref ma, .int ((i + 1 : Nat) : Int), .int g, .int z])) := sameX_upd
        refine ⟨_, rfl, _, _, rfl, rfl, ⟨by decide, by decide, by decide⟩, _, _, rfl, rfl, _, rfl, ?_⟩
        by_cases c3 : v ≥ 10 ^ 18
        · refine iteY (decide_eq_true c3) ?_
          refine ⟨_, rfl, _, rfl, b, _, 2, 2, rfl, rfl, hb0, rfl, ?_⟩
          have hb1 : upd (upd H b (.lst [.ref ma, .int ((i + 1 : Nat) : Int), .int g, .int z])) b (.lst [.ref ma, .int ((i + 1 : Nat) : Int), .int v, .int z]) b = some (.lst [.ref ma, .int (((i + 1) : Nat) : Int), .int (v), .int (z)]) := upd_same
          have hm1 : upd (upd H b (.lst [.ref ma, .int ((i + 1 : Nat) : Int), .int g, .int z])) b (.lst [.ref ma, .int ((i + 1 : Nat) : Int), .int v, .int z]) ma = some (.lst (xs.map V.int)) := by rw [upd_ne hne]; exact hma0
          have sx1 : SameX b H (upd (upd H b (.lst [.ref ma, .int ((i + 1 : Nat) : Int), .int g, .int z])) b (.lst [.ref ma, .int ((i + 1 : Nat) : Int), .int v, .int z])) := sx0.trans sameX_upd
          have hi1 : (i + 1) ≤ xs.length := c2
          have hg1 : 0 ≤ v := by omega
          have hz10 : 0 ≤ z := hz0
          have hz11 : z < 2147483647 := hz1
          refine ⟨_, rfl, b, _, 2, _, rfl, rfl, .of hb1, atI_nat (j := 2) rfl, _, _, rfl, rfl, _, rfl, ?_⟩
          by_cases hgp : v > 0
          · refine iteY (decide_eq_true hgp) ?_
            refine ⟨_, rfl, b, _, 2, _, rfl, rfl, .of hb1, atI_nat (j := 2) rfl, .inl ⟨_, rfl, _, rfl, _, _, rfl, rfl, by show 0 < m; omega, ?_⟩⟩
            refine ⟨_, rfl, b, _, 2, _, rfl, rfl, .of hb1, atI_nat (j := 2) rfl, _, rfl, _, _, rfl, rfl, ⟨by omega, by omega⟩, _, rfl, b, _, 2, 2, rfl, rfl, hb1, rfl, ?_⟩
            exact ⟨_, rfl, q _ _ (sx1.trans sameX_upd) (BxAt.put hm1 hne hi1 hx (by rw [Int.fdiv_eq_ediv_of_nonneg _ (by omega)]; exact Int.ediv_nonneg hg1 (by omega)) hz10 hz11) (Int.emod_nonneg _ (by omega)) (Int.emod_lt_of_pos _ (by omega))⟩
          · refine iteN (decide_eq_false hgp) ?_
            refine ⟨_, rfl, b, _, 3, _, rfl, rfl, .of hb1, atI_nat (j := 3) rfl, _, rfl, _, rfl, _, _, rfl, rfl, .inl (by omega), _, rfl, _, _, rfl, rfl, .inr (by decide), _, _, rfl, rfl, _, _, rfl, rfl, _, _, rfl, rfl, by show (0 : Int) < _; decide, _, rfl, b, _, 3, 3, rfl, rfl, hb1, rfl, ?_⟩
            have hb2 := upd_same (H := upd (upd H b (.lst [.ref ma, .int ((i + 1 : Nat) : Int), .int g, .int z])) b (.lst [.ref ma, .int ((i + 1 : Nat) : Int), .int v, .int z])) (a := b) (o := .lst [.ref ma, .int (((i + 1) : Nat) : Int), .int (v), .int ((z * z + z * 61001 + 911) % 2147483647)])
            refine ⟨_, rfl, b, _, 3, _, rfl, rfl, .of hb2, atI_nat (j := 3) rfl, _, _, rfl, rfl, ⟨by decide, by decide⟩, _, rfl, b, _, 3, _, rfl, rfl, .of hb2, atI_nat (j := 3) rfl, .inl ⟨_, rfl, _, _, rfl, rfl, by show (0 : Int) < _; decide, _, _, rfl, rfl, .inr (by decide), _, _, rfl, rfl, _, rfl, _, _, rfl, rfl, by show 0 < m; omega, ?_⟩⟩
            exact q _ _ (sx1.trans sameX_upd) (BxAt.put hm1 hne hi1 hx hg1 (Int.emod_nonneg _ (by decide)) (Int.emod_lt_of_pos _ (by decide))) (Int.emod_nonneg _ (by omega)) (Int.emod_lt_of_pos _ (by omega))

        · refine iteN (decide_eq_false c3) ?_
          refine ⟨_, rfl, b, _, 3, _, rfl, rfl, .of hb0, atI_nat (j := 3) rfl, _, _, rfl, rfl, .inr (by decide), _, rfl, .inl ⟨_, rfl, _, _, rfl, rfl, by show (0 : Int) < _; decide, _, _, rfl, rfl, .inr (by decide), _, _, rfl, rfl, _, _, rfl, rfl, _, _, rfl, rfl, by show (0 : Int) < _; decide, _, rfl, b, _, 3, 3, rfl, rfl, hb0, rfl, ?_⟩⟩
          have hb1 : upd (upd H b (.lst [.ref ma, .int ((i + 1 : Nat) : Int), .int g, .int z])) b (.lst [.ref ma, .int ((i + 1 : Nat) : Int), .int g, .int ((z * 40009 + v % 2147483587 * 7919 + 13) % 2147483647)]) b = some (.lst [.ref ma, .int (((i + 1) : Nat) : Int), .int (g), .int (((z * 40009 + v % 2147483587 * 7919 + 13) % 2147483647))]) := upd_same
          have hm1 : upd (upd H b (.lst [.ref ma, .int ((i + 1 : Nat) : Int), .int g, .int z])) b (.lst [.ref ma, .int ((i + 1 : Nat) : Int), .int g, .int ((z * 40009 + v % 2147483587 * 7919 + 13) % 2147483647)]) ma = some (.lst (xs.map V.int)) := by rw [upd_ne hne]; exact hma0
          have sx1 : SameX b H (upd (upd H b (.lst [.ref ma, .int ((i + 1 : Nat) : Int), .int g, .int z])) b (.lst [.ref ma, .int ((i + 1 : Nat) : Int), .int g, .int ((z * 40009 + v % 2147483587 * 7919 + 13) % 2147483647)])) := sx0.trans sameX_upd
          have hi1 : (i + 1) ≤ xs.length := c2
          have hg1 : 0 ≤ g := hg
          have hz10 : 0 ≤ ((z * 40009 + v % 2147483587 * 7919 + 13) % 2147483647) := Int.emod_nonneg _ (by decide)
          have hz11 : ((z * 40009 + v % 2147483587 * 7919 + 13) % 2147483647) < 2147483647 := Int.emod_lt_of_pos _ (by decide)
          refine ⟨_, rfl, b, _, 2, _, rfl, rfl, .of hb1, atI_nat (j := 2) rfl, _, _, rfl, rfl, _, rfl, ?_⟩
          by_cases hgp : g > 0
          · refine iteY (decide_eq_true hgp) ?_
            refine ⟨_, rfl, b, _, 2, _, rfl, rfl, .of hb1, atI_nat (j := 2) rfl, .inl ⟨_, rfl, _, rfl, _, _, rfl, rfl, by show 0 < m; omega, ?_⟩⟩
            refine ⟨_, rfl, b, _, 2, _, rfl, rfl, .of hb1, atI_nat (j := 2) rfl, _, rfl, _, _, rfl, rfl, ⟨by omega, by omega⟩, _, rfl, b, _, 2, 2, rfl, rfl, hb1, rfl, ?_⟩
            exact ⟨_, rfl, q _ _ (sx1.trans sameX_upd) (BxAt.put hm1 hne hi1 hx (by rw [Int.fdiv_eq_ediv_of_nonneg _ (by omega)]; exact Int.ediv_nonneg hg1 (by omega)) hz10 hz11) (Int.emod_nonneg _ (by omega)) (Int.emod_lt_of_pos _ (by omega))⟩
          · refine iteN (decide_eq_false hgp) ?_
            refine ⟨_, rfl, b, _, 3, _, rfl, rfl, .of hb1, atI_nat (j := 3) rfl, _, rfl, _, rfl, _, _, rfl, rfl, .inl (by omega), _, rfl, _, _, rfl, rfl, .inr (by decide), _, _, rfl, rfl, _, _, rfl, rfl, _, _, rfl, rfl, by show (0 : Int) < _; decide, _, rfl, b, _, 3, 3, rfl, rfl, hb1, rfl, ?_⟩
            have hb2 := upd_same (H := upd (upd H b (.lst [.ref ma, .int ((i + 1 : Nat) : Int), .int g, .int z])) b (.lst [.ref ma, .int ((i + 1 : Nat) : Int), .int g, .int ((z * 40009 + v % 2147483587 * 7919 + 13) % 2147483647)])) (a := b) (o := .lst [.ref ma, .int (((i + 1) : Nat) : Int), .int (g), .int ((((z * 40009 + v % 2147483587 * 7919 + 13) % 2147483647) * ((z * 40009 + v % 2147483587 * 7919 + 13) % 2147483647) + ((z * 40009 + v % 2147483587 * 7919 + 13) % 2147483647) * 61001 + 911) % 2147483647)])
            refine ⟨_, rfl, b, _, 3, _, rfl, rfl, .of hb2, atI_nat (j := 3) rfl, _, _, rfl, rfl, ⟨by decide, by decide⟩, _, rfl, b, _, 3, _, rfl, rfl, .of hb2, atI_nat (j := 3) rfl, .inl ⟨_, rfl, _, _, rfl, rfl, by show (0 : Int) < _; decide, _, _, rfl, rfl, .inr (by decide), _, _, rfl, rfl, _, rfl, _, _, rfl, rfl, by show 0 < m; omega, ?_⟩⟩
            exact q _ _ (sx1.trans sameX_upd) (BxAt.put hm1 hne hi1 hx hg1 (Int.emod_nonneg _ (by decide)) (Int.emod_lt_of_pos _ (by decide))) (Int.emod_nonneg _ (by omega)) (Int.emod_lt_of_pos _ (by omega))

      · refine iteN (decide_eq_false (by rw [hlen]; omega)) ?_
        have hb1 : H b = some (.lst [.ref ma, .int ((i : Nat) : Int), .int (g), .int (z)]) := hb
        have hm1 : H ma = some (.lst (xs.map V.int)) := hma
        have sx1 : SameX b H (H) := SameX.refl _ _
        have hi1 : i ≤ xs.length := hi
        have hg1 : 0 ≤ g := hg
        have hz10 : 0 ≤ z := hz0
        have hz11 : z < 2147483647 := hz1
        refine ⟨_, rfl, b, _, 2, _, rfl, rfl, .of hb1, atI_nat (j := 2) rfl, _, _, rfl, rfl, _, rfl, ?_⟩
        by_cases hgp : g > 0
        · refine iteY (decide_eq_true hgp) ?_
          refine ⟨_, rfl, b, _, 2, _, rfl, rfl, .of hb1, atI_nat (j := 2) rfl, .inl ⟨_, rfl, _, rfl, _, _, rfl, rfl, by show 0 < m; omega, ?_⟩⟩
          refine ⟨_, rfl, b, _, 2, _, rfl, rfl, .of hb1, atI_nat (j := 2) rfl, _, rfl, _, _, rfl, rfl, ⟨by omega, by omega⟩, _, rfl, b, _, 2, 2, rfl, rfl, hb1, rfl, ?_⟩
          exact ⟨_, rfl, q _ _ (sx1.trans sameX_upd) (BxAt.put hm1 hne hi1 hx (by rw [Int.fdiv_eq_ediv_of_nonneg _ (by omega)]; exact Int.ediv_nonneg hg1 (by omega)) hz10 hz11) (Int.emod_nonneg _ (by omega)) (Int.emod_lt_of_pos _ (by omega))⟩
        · refine iteN (decide_eq_false hgp) ?_
          refine ⟨_, rfl, b, _, 3, _, rfl, rfl, .of hb1, atI_nat (j := 3) rfl, _, rfl, _, rfl, _, _, rfl, rfl, .inl (by omega), _, rfl, _, _, rfl, rfl, .inr (by decide), _, _, rfl, rfl, _, _, rfl, rfl, _, _, rfl, rfl, by show (0 : Int) < _; decide, _, rfl, b, _, 3, 3, rfl, rfl, hb1, rfl, ?_⟩
          have hb2 := upd_same (H := H) (a := b) (o := .lst [.ref ma, .int ((i : Nat) : Int), .int (g), .int ((z * z + z * 61001 + 911) % 2147483647)])
          refine ⟨_, rfl, b, _, 3, _, rfl, rfl, .of hb2, atI_nat (j := 3) rfl, _, _, rfl, rfl, ⟨by decide, by decide⟩, _, rfl, b, _, 3, _, rfl, rfl, .of hb2, atI_nat (j := 3) rfl, .inl ⟨_, rfl, _, _, rfl, rfl, by show (0 : Int) < _; decide, _, _, rfl, rfl, .inr (by decide), _, _, rfl, rfl, _, rfl, _, _, rfl, rfl, by show 0 < m; omega, ?_⟩⟩
          exact q _ _ (sx1.trans sameX_upd) (BxAt.put hm1 hne hi1 hx hg1 (Int.emod_nonneg _ (by decide)) (Int.emod_lt_of_pos _ (by decide))) (Int.emod_nonneg _ (by omega)) (Int.emod_lt_of_pos _ (by omega))

    · refine iteN (eqZ_no c1) (iteF ?_)
      have hb1 : H b = some (.lst [.ref ma, .int ((i : Nat) : Int), .int (g), .int (z)]) := hb
      have hm1 : H ma = some (.lst (xs.map V.int)) := hma
      have sx1 : SameX b H (H) := SameX.refl _ _
      have hi1 : i ≤ xs.length := hi
      have hg1 : 0 ≤ g := hg
      have hz10 : 0 ≤ z := hz0
      have hz11 : z < 2147483647 := hz1
      refine ⟨_, rfl, b, _, 2, _, rfl, rfl, .of hb1, atI_nat (j := 2) rfl, _, _, rfl, rfl, _, rfl, ?_⟩
      by_cases hgp : g > 0
      · refine iteY (decide_eq_true hgp) ?_
        refine ⟨_, rfl, b, _, 2, _, rfl, rfl, .of hb1, atI_nat (j := 2) rfl, .inl ⟨_, rfl, _, rfl, _, _, rfl, rfl, by show 0 < m; omega, ?_⟩⟩
        refine ⟨_, rfl, b, _, 2, _, rfl, rfl, .of hb1, atI_nat (j := 2) rfl, _, rfl, _, _, rfl, rfl, ⟨by omega, by omega⟩, _, rfl, b, _, 2, 2, rfl, rfl, hb1, rfl, ?_⟩
        exact ⟨_, rfl, q _ _ (sx1.trans sameX_upd) (BxAt.put hm1 hne hi1 hx (by rw [Int.fdiv_eq_ediv_of_nonneg _ (by omega)]; exact Int.ediv_nonneg hg1 (by omega)) hz10 hz11) (Int.emod_nonneg _ (by omega)) (Int.emod_lt_of_pos _ (by omega))⟩
      · refine iteN (decide_eq_false hgp) ?_
        refine ⟨_, rfl, b, _, 3, _, rfl, rfl, .of hb1, atI_nat (j := 3) rfl, _, rfl, _, rfl, _, _, rfl, rfl, .inl (by omega), _, rfl, _, _, rfl, rfl, .inr (by decide), _, _, rfl, rfl, _, _, rfl, rfl, _, _, rfl, rfl, by show (0 : Int) < _; decide, _, rfl, b, _, 3, 3, rfl, rfl, hb1, rfl, ?_⟩
        have hb2 := upd_same (H := H) (a := b) (o := .lst [.ref ma, .int ((i : Nat) : Int), .int (g), .int ((z * z + z * 61001 + 911) % 2147483647)])
        refine ⟨_, rfl, b, _, 3, _, rfl, rfl, .of hb2, atI_nat (j := 3) rfl, _, _, rfl, rfl, ⟨by decide, by decide⟩, _, rfl, b, _, 3, _, rfl, rfl, .of hb2, atI_nat (j := 3) rfl, .inl ⟨_, rfl, _, _, rfl, rfl, by show (0 : Int) < _; decide, _, _, rfl, rfl, .inr (by decide), _, _, rfl, rfl, _, rfl, _, _, rfl, rfl, by show 0 < m; omega, ?_⟩⟩
        exact q _ _ (sx1.trans sameX_upd) (BxAt.put hm1 hne hi1 hx hg1 (Int.emod_nonneg _ (by decide)) (Int.emod_lt_of_pos _ (by decide))) (Int.emod_nonneg _ (by omega)) (Int.emod_lt_of_pos _ (by omega))

end
end K35
/-! text D22 -/
set_option Elab.async false
set_option linter.all false
set_option maxRecDepth 100000
set_option maxHeartbeats 4000000
/-! the law's words -/
namespace K35
open PySem PySem.Spec PyProof.Rows L2
theorem SameX.bx {H H' : Hp} {b a : Addr} {o : HO} {ma : Addr} (h : BxAt ma H b) (s : SameX b H H') (ha : H a = some o) (hl : ∀ xs, o = .lst xs → ∀ x ∈ xs, ∃ z, x = .str z) : H' a = some o := by
  obtain ⟨xs, i, g, z, h1, _⟩ := h
  refine s _ _ ?_ ha
  rintro rfl
  rw [h1] at ha
  obtain ⟨z, hz⟩ := hl _ (Option.some.inj ha).symm _ (List.mem_cons_self ..)
  cases hz
theorem SameX.strs {H H' : Hp} {b a : Addr} {zs : List Str} {ma : Addr} (h : BxAt ma H b) (s : SameX b H H') (ha : H a = some (.lst (zs.map V.str))) : H' a = some (.lst (zs.map V.str)) :=
  SameX.bx h s ha fun xs e x hx => by
    injection e with e
    rw [← e] at hx
    obtain ⟨z, _, rfl⟩ := List.mem_map.mp hx
    exact ⟨z, rfl⟩
section
variable {P : Program} {w : World} {K : PySem.W.Frag} {mg : Str → Option Value} {base : Heap} {f : Addr} {fd : FuncData}
abbrev s__law_any : Stmt := top 53
theorem sc__law_any : FnScope ["_law_box", "_law_some"] ["_law_box", "_law_some"] (defScope s__law_any) := ⟨rfl, rfl, rfl, by decide +kernel, rfl, by decide +kernel, by decide +kernel⟩
def sp__law_any : Sp := fun vs H Q _ => ∃ (b ma l : Addr) (zs : List Str), vs = [.ref b, .ref l] ∧ BxAt ma H b ∧ H l = some (.lst (zs.map V.str)) ∧ zs ≠ [] ∧ zs.length ≤ 1000 ∧ ∀ H' z, SameX b H H' → BxAt ma H' b → z ∈ zs → Q (.str z) H'
theorem c__law_any {fD : Addr} {fdD : FuncData} (F : FnP K "_law_any" "_law_any" s__law_any f fd) (B : Fre mg) (cD : Cal P w K mg base 1 ["_law_box", "_law_many"] sp__law_draw fD fdD) (gD : mg "_law_draw" = some (.ref fD)) : Cal P w K mg base 2 ["_law_box", "_law_some"] sp__law_any f fd := by
  refine F.cal (F.ok sc__law_any (fun vs H Q E h => ?_) (fun cdv A outer s H vs Q E hr h => ?_)) (fun _ _ _ _ _ _ us hl => match us, hl with | [_, _], _ => rfl)
  · obtain ⟨b, ma, m, zs, rfl, _⟩ := h
    rfl
  · obtain ⟨b, ma, l, zs, rfl, hB, hl, hne, hz, q⟩ := h
    have nd := sc__law_any.nd
    refine ⟨_, PSs.nox (pss_one (ps_ret (pe_ix ix_list (pv 1) (pe_cal cD (hr.mono (by decide)) rfl gD (pa_cons (pv 0) (pa_cons (pe_callB call_len_seq (by rfl) B.len PySem.boot_len (pa_cons (pv 1) pa_nil)) pa_nil))) (fun _ _ => rfl)))), ?_⟩
    have hpos : 0 < zs.length := List.length_pos_iff.mpr hne
    refine ⟨_, rfl, _, rfl, _, rfl, l, _, rfl, .inl (.of hl), b, ma, _, rfl, hB, by rw [List.length_map]; omega, by rw [List.length_map]; omega, fun H1 d sx hB1 hd0 hd1 => ?_⟩
    rw [List.length_map] at hd1
    obtain ⟨j, rfl⟩ : ∃ j : Nat, d = (j : Int) := ⟨d.toNat, by omega⟩
    have hj : j < zs.length := by omega
    refine ⟨l, _, _, _, rfl, rfl, .of (sx.strs hB hl), atI_nat (j := j) (by rw [List.getElem?_map, List.getElem?_eq_getElem hj]; rfl), ?_⟩
    exact q _ _ sx hB1 (List.getElem_mem hj)
/-! _law_letters -/
abbrev s__law_letters : Stmt := top 54
theorem sc__law_letters : FnScope ["_law_box", "_law_many", "_law_found", "_law_k", "_law_left", "_law_letter"] ["_law_box", "_law_many"] (defScope s__law_letters) := ⟨rfl, rfl, rfl, by decide +kernel, rfl, by decide +kernel, by decide +kernel⟩
def sp__law_letters : Sp := fun vs H Q _ => ∃ (b ma : Addr) (m : Nat), vs = [.ref b, .int (m : Int)] ∧ BxAt ma H b ∧ 1 ≤ m ∧ m ≤ 3 ∧ ∀ H' L, SameX b H H' → BxAt ma H' b → LG L → L.length = m → Q (.str (lt L)) H'
theorem mem_lt (L : List Nat) (c : Nat) : (c ∈ (lt L).cps.toList) ↔ (c ∈ L) := by simp [lt]
theorem nd_len {α : Type} [DecidableEq α] : ∀ (l m : List α), l.Nodup → (∀ x ∈ l, x ∈ m) → l.length ≤ m.length
  | [], _, _, _ => Nat.zero_le _
  | x :: l, m, h, hs => by
    obtain ⟨h1, h2⟩ := List.nodup_cons.mp h
    have hx := hs x (List.mem_cons_self ..)
    have := nd_len l (m.erase x) h2 fun y hy => (List.mem_erase_of_ne (by rintro rfl; exact h1 hy)).mpr (hs y (List.mem_cons_of_mem _ hy))
    rw [List.length_erase_of_mem hx] at this
    have := List.length_pos_of_mem hx
    rw [List.length_cons]
    omega
theorem all_str (H : Hp) : ∀ l : List Str, ecStr.all H (l.map V.str) l
  | [] => .nil
  | x :: l => .cons rfl (all_str H l)
theorem c__law_letters {fD : Addr} {fdD : FuncData} (F : FnP K "_law_letters" "_law_letters" s__law_letters f fd) (B : Fre mg) (cD : Cal P w K mg base 2 ["_law_box", "_law_some"] sp__law_any fD fdD) (gD : mg "_law_any" = some (.ref fD)) : Cal P w K mg base 3 ["_law_box", "_law_many"] sp__law_letters f fd := by
  refine F.cal (F.ok sc__law_letters (fun vs H Q E h => ?_) (fun cdv A outer s H vs Q E hr h => ?_)) (fun _ _ _ _ _ _ us hl => match us, hl with | [_, _], _ => rfl)
  · obtain ⟨b, ma, m, rfl, _⟩ := h
    rfl
  · obtain ⟨b, ma, m, rfl, hB, hm1, hm3, q⟩ := h
    have nd := sc__law_letters.nd
    refine ⟨_, PSs.nox (pss_cons (ps_set (i := 2) nd rfl (.inr rfl) pe_str) (pss_cons (ps_for PassesOwn.never rfl (pi_range1 rfl B.range (pa_cons (pv 1) pa_nil)) (pg_name (i := 3) nd rfl (.inl rfl)) (pss_cons (ps_setLc (i := 4) (own := [("_law_letter", 5)]) (g := gName 5) rfl nd rfl rfl (sw_true rfl rfl rfl (by decide +kernel)) (pi_str pe_str) (blkOk_by (N := ["_law_box", "_law_many", "_law_found", "_law_k", "_law_left", "_law_letter"]) (sc := defScope s__law_letters) (by decide +kernel)) (fun _ _ _ _ _ => (pg_name (i := 5) nd rfl (.inl rfl))) (fun _ _ _ _ _ => (pts_one (pt_cmpR op_notIn_sign (pv 5) (pv 2) rfl))) (fun _ _ _ _ _ => (pv 5))) (pss_one (ps_set (i := 2) nd rfl (.inr rfl) (pe_op op_add_str (pv 2) (pe_cal cD (hr.mono (by decide)) rfl gD (pa_cons (pv 0) (pa_cons (pv 4) pa_nil)))))))) (pss_one (ps_ret (pv 2))))), ?_⟩
    have hz : (100 : Nat) ≤ sizeLine := by decide
    have hab : Str.ofString "abmtxyz" = lt AB := by decide +kernel
    refine ⟨_, rfl, _, rfl, by omega, by omega, ?_⟩
    rw [Int.toNat_natCast]
    have e0 : Str.ofString "" = lt [] := rfl
    refine for_it walk_range (fun i σ H1 => ∃ (L : List Nat) (y3 y4 y5 : Option V), σ = [some (.ref b), some (.int (m : Int)), some (.str (lt L)), y3, y4, y5] ∧ SameX b H H1 ∧ BxAt ma H1 b ∧ L.length = i ∧ L.Nodup ∧ ∀ c ∈ L, c ∈ AB) ⟨[], _, _, _, rfl, SameX.refl _ _, hB, rfl, .nil, fun c hc => nomatch hc⟩ (fun _ _ _ _ _ => trivial) (fun i x σ H1 H' hi pv y => ?_) (fun σ H1 pv => ?_)
    · obtain ⟨L, y3, y4, y5, rfl, sx, hB1, hL, hnd, hsub⟩ := pv
      obtain ⟨rfl, rfl⟩ := y
      refine ⟨_, rfl, fun D nD => ?_⟩
      rw [hab]
      have hAB : (lt AB).cps.size = AB.length := by simp [lt]
      refine lc_gen (walk_lt (L := AB)) ecStr AB (fun c => if c ∈ L then none else some ⟨#[c]⟩) nD rfl (by decide) (fun _ _ => trivial) (fun j x H2 H' c hc sm y N1 N0 k1 k0 => ?_) (fun H2 sm hl => ?_)
      · obtain ⟨rfl, rfl⟩ := y
        have hc' : (wd AB [(j, true)]) = ⟨#[c]⟩ := by
          show (⟨#[AB.getD j 0]⟩ : Str) = _
          rw [List.getD_eq_getElem?_getD, hc]
          rfl
        refine ⟨rfl, _, rfl, _, rfl, c, lt L, by rw [hc'], rfl, _, rfl, ?_⟩
        by_cases h : c ∈ L
        · exact iteN (by rw [decide_eq_true ((mem_lt L c).mpr h)]; rfl) (k0 _ (if_pos h) (Same.refl _))
        · exact iteY (by rw [decide_eq_false fun q => h ((mem_lt L c).mp q)]; rfl) ⟨_, rfl, k1 _ _ _ (if_neg h) (by rw [hc']; rfl) (Same.refl _)⟩
      · have hl := hl.strs
        have hB2 := hB1.same sm
        have hne : (AB.filterMap fun c => if c ∈ L then none else some (⟨#[c]⟩ : Str)) ≠ [] := by
          intro h
          have h2 : ∀ c ∈ AB, c ∈ L := fun c hc => by
            have := List.filterMap_eq_nil_iff.mp h c hc
            by_cases e : c ∈ L
            · exact e
            · rw [if_neg e] at this
              cases this
          have : AB.Nodup := by decide
          have := nd_len _ _ this h2
          have : AB.length = 7 := rfl
          omega
        have hlen := List.length_filterMap_le (fun c => if c ∈ L then none else some (⟨#[c]⟩ : Str)) AB
        have h7 : AB.length = 7 := rfl
        refine ⟨_, rfl, _, rfl, _, rfl, b, ma, D, _, rfl, hB2, hl, hne, by omega, fun H3 z sx3 hB3 hzm => ?_⟩
        obtain ⟨c, hcA, hcz⟩ := List.mem_filterMap.mp hzm
        have hcL : c ∉ L := fun h => by rw [if_pos h] at hcz; cases hcz
        rw [if_neg hcL] at hcz
        obtain rfl := Option.some.inj hcz
        refine ⟨_, _, rfl, rfl, by show L.toArray.size + 1 ≤ _; simp; omega, ?_⟩
        have e1 : lt L ++ (⟨#[c]⟩ : Str) = lt (L ++ [c]) := str_ext (by
          show (lt L ++ (⟨#[c]⟩ : Str)).cps.toList = _
          rw [Str.cps_append, Array.toList_append]
          simp [lt])
        rw [e1]
        refine ⟨L ++ [c], _, _, _, rfl, (sx.trans (Same.x sm)).trans sx3, hB3, by simp [hL], ?_, fun d hd => ?_⟩
        · rw [List.nodup_append]
          exact ⟨hnd, by simp, fun x hx y hy => by rw [List.mem_singleton.mp hy]; rintro rfl; exact hcL hx⟩
        · rcases List.mem_append.mp hd with h | h
          · exact hsub d h
          · rw [List.mem_singleton.mp h]
            exact hcA
    · obtain ⟨L, y3, y4, y5, rfl, sx, hB1, hL, hnd, hsub⟩ := pv
      exact ⟨_, rfl, q _ L sx hB1 ⟨hsub, hnd, by omega, by omega⟩ hL⟩
/-! _law_some_word -/
abbrev s__law_some_word : Stmt := top 57
theorem sc__law_some_word : FnScope ["_law_box", "_law_letters_here", "_law_most", "_law_signs_here", "_law_k"] ["_law_box", "_law_letters_here", "_law_most"] (defScope s__law_some_word) := ⟨rfl, rfl, rfl, by decide +kernel, rfl, by decide +kernel, by decide +kernel⟩
def sp__law_some_word : Sp := fun vs H Q _ => ∃ (b ma : Addr) (L : List Nat) (m : Nat), vs = [.ref b, .str (lt L), .int (m : Int)] ∧ BxAt ma H b ∧ LG L ∧ m ≤ 10 ∧ ∀ H' v, SameX b H H' → BxAt ma H' b → WF L.length v → v.length ≤ m → Q (.str (wd L v)) H'
theorem mem_allSg {n : Nat} {g : Sg} (h : g ∈ allSg n) : g.1 < n := by
  unfold allSg at h
  obtain ⟨l, hl, hg⟩ := List.mem_flatten.mp h
  obtain ⟨i, hi, rfl⟩ := List.mem_map.mp hl
  have := List.mem_range.mp hi
  rcases List.mem_cons.mp hg with rfl | hg
  · exact this
  · rw [List.mem_singleton.mp hg]
    exact this
theorem c__law_some_word {fA fD fS : Addr} {fdA fdD fdS : FuncData} (F : FnP K "_law_some_word" "_law_some_word" s__law_some_word f fd) (B : Fre mg) (cA : Cal P w K mg base 2 ["_law_box", "_law_some"] sp__law_any fA fdA) (gA : mg "_law_any" = some (.ref fA))
    (cD : Cal P w K mg base 1 ["_law_box", "_law_many"] sp__law_draw fD fdD) (gD : mg "_law_draw" = some (.ref fD)) (cS : Cal P w K mg base 1 ["_law_letters_here"] sp__law_signs fS fdS) (gS : mg "_law_signs" = some (.ref fS)) : Cal P w K mg base 3 ["_law_box", "_law_letters_here", "_law_most"] sp__law_some_word f fd := by
  refine F.cal (F.ok sc__law_some_word (fun vs H Q E h => ?_) (fun cdv A outer s H vs Q E hr h => ?_)) (fun _ _ _ _ _ _ us hl => match us, hl with | [_, _, _], _ => rfl)
  · obtain ⟨b, ma, L, m, rfl, _⟩ := h
    rfl
  · obtain ⟨b, ma, L, m, rfl, hB, lg, hm, q⟩ := h
    have nd := sc__law_some_word.nd
    refine ⟨_, PSs.nox (pss_cons (ps_set (i := 3) nd rfl (.inr rfl) (pe_cal cS (hr.mono (by decide)) rfl gS (pa_cons (pv 1) pa_nil))) (pss_one (ps_ret (pe_join pe_str (pe_lc (own := [("_law_k", 4)]) (g := gName 4) (tt := tYes) rfl nd (pi_range1 rfl B.range (pa_cons (pe_cal cD (hr.mono (by decide)) rfl gD (pa_cons (pv 0) (pa_cons (pe_op op_add (pv 2) pe_int) pa_nil))) pa_nil)) (blkOk_by (N := ["_law_box", "_law_letters_here", "_law_most", "_law_signs_here", "_law_k"]) (sc := defScope s__law_some_word) (by decide +kernel)) (fun _ _ _ _ _ => (pg_name (i := 4) nd rfl (.inl rfl))) (fun _ _ _ _ _ => pts_nil) (fun _ _ _ _ _ => (pe_cal cA (hr.mono (by decide)) rfl gA (pa_cons (pv 0) (pa_cons (pe_callTy (call_listS rfl) (by rfl) B.list (by decide +kernel) (pa_cons (pv 3) pa_nil)) pa_nil))))))))), ?_⟩
    have hz : (100 : Nat) ≤ sizeLine := by decide
    have hn1 := lg.pos
    have hn3 := lg.le
    have hal := allSg_len L.length
    refine ⟨_, rfl, L, lg, rfl, fun H1 sm1 => ?_⟩
    have hB1 := hB.same sm1
    refine ⟨⟨_, rfl⟩, _, rfl, _, rfl, _, _, rfl, rfl, b, ma, _, rfl, hB1, by omega, by omega, fun H2 d sx2 hB2 hd0 hd1 => ?_⟩
    obtain ⟨n, rfl⟩ : ∃ n : Nat, d = (n : Int) := ⟨d.toNat, by omega⟩
    refine ⟨_, rfl, by omega, by omega, fun D nD => ?_⟩
    rw [Int.toNat_natCast]
    obtain ⟨hDb, hDm⟩ : b ≠ D ∧ ma ≠ D := by
      obtain ⟨xs, i, g, z, h1, h2, _⟩ := hB2
      exact ⟨ne_of_none h1 nD, ne_of_none h2 nD⟩
    refine lc_it walk_range (fun i H3 => SameX b H2 H3 ∧ BxAt ma H3 b ∧ ∃ gs : Wd, WF L.length gs ∧ gs.length = i ∧ H3 D = some (.lst ((gs.map fun g => wd L [g]).map V.str))) ⟨Same.x (same_new nD), hB2.same (same_new nD), [], (fun g hg => nomatch hg), rfl, upd_same⟩ (fun _ _ _ _ => trivial) (fun i x H3 H' hi pv y => ?_) (fun H3 pv => ?_)
    · obtain ⟨sx3, hB3, gs, hgs, hgl, hD⟩ := pv
      obtain ⟨rfl, rfl⟩ := y
      refine ⟨rfl, _, rfl, _, rfl, _, rfl, by rw [wd_len]; omega, fun p np => ?_⟩
      have hp := upd_same (H := H') (a := p) (o := .lst ((sgs (wd L (allSg L.length))).map V.str))
      have sp := same_new (o := .lst ((sgs (wd L (allSg L.length))).map V.str)) np
      generalize upd H' p (.lst ((sgs (wd L (allSg L.length))).map V.str)) = H4 at hp sp
      have hsl : (sgs (wd L (allSg L.length))).length = 2 * L.length := by rw [sgs_len, wd_len, hal]
      refine ⟨b, ma, p, _, rfl, hB3.same sp, hp, by intro e; rw [e] at hsl; simp at hsl; omega, by omega, fun H5 z sx5 hB5 hz5 => ?_⟩
      rw [sgs_wd] at hz5
      obtain ⟨g, hg, rfl⟩ := List.mem_map.mp hz5
      have hD5 := sx5.strs (hB3.same sp) (sp _ _ hD)
      refine ⟨_, hD5, by rw [List.length_map, List.length_map]; omega, ?_, ?_, gs ++ [g], ?_, by simp [hgl], ?_⟩
      · intro a o hab ha
        rw [upd_ne (ne_of_none ha nD)]
        exact ((sx3.trans (Same.x sp)).trans sx5) a o hab ha
      · obtain ⟨xs, i, g, z, h1, h2, h3⟩ := hB5
        exact ⟨xs, i, g, z, by rw [upd_ne hDb]; exact h1, by rw [upd_ne hDm]; exact h2, h3⟩
      · intro k hk
        rcases List.mem_append.mp hk with h | h
        · exact hgs k h
        · rw [List.mem_singleton.mp h]
          exact mem_allSg hg
      · rw [upd_same]
        simp
    · obtain ⟨sx3, hB3, gs, hgs, hgl, hD⟩ := pv
      exact rd_join1 ⟨_, hD, all_str _ _⟩ (by omega) (q _ gs (((Same.x sm1).trans sx2).trans sx3) hB3 hgs (by omega))
end
end K35
/-! text D23 -/
set_option Elab.async false
set_option linter.all false
set_option maxRecDepth 100000
set_option maxHeartbeats 4000000
/-! the law's normal rows -/
namespace K35
open PySem PySem.Spec PyProof.Rows L2
def stepsOf (c : Place) (i : Nat) : List Place := if isZ c = false ∧ leadP c < i then [nrm1 c] else []
theorem stepsOf_end {c : Place} : stepsOf c c.length = nrmR c := by
  rw [← nrmRs_one]
  unfold stepsOf nrmRs nzs
  cases h : isZ c with
  | true => simp [h]
  | false =>
    have := lead_lt h
    simp [h, this]
theorem ixN_of {n i : Nat} (h : i < n) : ixN n ((i : Nat) : Int) = some i := by
  unfold ixN
  rw [if_pos (by omega), if_pos (by omega)]
  rfl
theorem rep_non (n : Nat) : (List.replicate n [V.non]).flatten = List.replicate n V.non := by
  induction n with
  | zero => rfl
  | succ n ih => rw [List.replicate_succ, List.flatten_cons, ih]; rfl
section
variable {P : Program} {w : World} {K : PySem.W.Frag} {mg : Str → Option Value} {base : Heap} {f : Addr} {fd : FuncData}
abbrev s__law_normal : Stmt := top 65
theorem sc__law_normal : FnScope ["_law_width", "_law_rows", "_law_found", "_law_todo", "_law_row", "_law_at", "_law_held", "_law_times", "_law_steps", "_law_pivot"] ["_law_width", "_law_rows"] (defScope s__law_normal) := ⟨rfl, rfl, rfl, by decide +kernel, rfl, by decide +kernel, by decide +kernel⟩
def sp__law_normal : Sp := fun vs H Q _ => ∃ (n : Nat) (a : Addr) (c : Place), vs = [.int (n : Int), .ref a] ∧ LsE ecP H a [c] ∧ c.length = n ∧ 1 ≤ n ∧ n ≤ 3 ∧ ∀ H' b, Same H H' → LsE ecP H' b (nrmR c) → Q (.ref b) H'
theorem c__law_normal {fA fY fL : Addr} {fdA fdY fdL : FuncData} (F : FnP K "_law_normal" "_law_normal" s__law_normal f fd) (B : Fre mg) (cA : Cal P w K mg base 1 ["_law_row"] sp__law_first_at fA fdA) (gA : mg "_law_first_at" = some (.ref fA))
    (cY : Cal P w K mg base 1 ["_law_one", "_law_times"] sp_scaled fY fdY) (gY : mg "_law_by" = some (.ref fY)) : Cal P w K mg base 2 ["_law_width", "_law_rows"] sp__law_normal f fd := by
  refine F.cal (F.ok sc__law_normal (fun vs H Q E h => ?_) (fun cdv A outer s H vs Q E hr h => ?_)) (fun _ _ _ _ _ _ us hl => match us, hl with | [_, _], _ => rfl)
  · obtain ⟨n, a, c, rfl, _⟩ := h
    rfl
  · obtain ⟨n, a, c, rfl, ha, hcn, hn1, hn3, q⟩ := h
    have nd := sc__law_normal.nd
    refine ⟨_, PSs.nox (pss_cons (ps_par (i := 2) (j := 3) rfl nd rfl rfl (by decide) rfl rfl (pa_cons (pe_op op_rep (pe_lst (pa_cons pe_non pa_nil)) (pv 0)) (pa_cons (pe_callTy call_list_of (by rfl) B.list (by decide +kernel) (pa_cons (pv 1) pa_nil)) pa_nil)) (by rfl)) (pss_cons (ps_while PassesOwn.never (pt_cmpR (op_neD hr.units) (pv 3) (pe_lst pa_nil) (nomark _)) (pss_cons (ps_set (i := 4) nd rfl (.inl rfl) (pe_bm0 PySem.F.plainAttrs_list PySem.F.slot_list_pop PySem.F.type_list_pop mt_pop (pv 3))) (pss_cons (ps_set (i := 5) nd rfl (.inr rfl) (pe_cal cA (hr.mono (by decide)) rfl gA (pa_cons (pv 4) pa_nil))) (pss_one (ps_if (PW.pt (pw_and (pt_cmpR op_notN (pv 5) pe_non (nomark _)) (pw_and1 (pt_cmpR op_isN (pe_ix ix_list (pv 2) (pv 5) (fun _ _ => rfl)) pe_non (nomark _))))) (pss_one (ps_asg (pv 4) (pg_sub (pv 2) (pv 5) set_list))) (pss_one (ps_if (pt_cmpR op_notN (pv 5) pe_non (nomark _)) pss_never pss_nil))))))) (pss_cons (ps_set (i := 8) nd rfl (.inl rfl) (pe_lst pa_nil)) (pss_cons (ps_for PassesOwn.never rfl (pi_range1 rfl B.range (pa_cons (pv 0) pa_nil)) (pg_name (i := 5) nd rfl (.inr rfl)) (pss_one (ps_if (pt_cmpR op_notN (pe_ix ix_list (pv 2) (pv 5) (fun _ _ => rfl)) pe_non (nomark _)) (pss_cons (ps_set (i := 9) nd rfl (.inr rfl) (pe_ifExp (pt_cmpR op_gt (pe_ix ix_tup (pe_ix ix_list (pv 2) (pv 5) (fun _ _ => rfl)) (pv 5) (fun _ _ => rfl)) pe_int (nomark _)) (pe_ix ix_list (pv 2) (pv 5) (fun _ _ => rfl)) (pe_cal cY (hr.mono (by decide)) rfl gY (pa_cons (pe_ix ix_list (pv 2) (pv 5) (fun _ _ => rfl)) (pa_cons (pe_un un_neg pe_int) pa_nil))))) (pss_one (ps_set (i := 8) nd rfl (.inl rfl) (pe_op op_cat (pe_lc (own := [("_law_row", 4)]) (g := gName 4) (tt := tYes) rfl nd (pi_list (pv 8)) (blkOk_by (N := ["_law_width", "_law_rows", "_law_found", "_law_todo", "_law_row", "_law_at", "_law_held", "_law_times", "_law_steps", "_law_pivot"]) (sc := defScope s__law_normal) (by decide +kernel)) (fun _ _ _ _ _ => (pg_name (i := 4) nd rfl (.inl rfl))) (fun _ _ _ _ _ => pts_nil) (fun _ _ _ _ _ => pe_no)) (pe_lst (pa_cons (pv 9) pa_nil)))))) pss_nil))) (pss_one (ps_ret (pv 8))))))), ?_⟩
    have h10 : (10 : Nat) ≤ sizeLine := by decide
    obtain ⟨va, ea, aa⟩ := ha
    obtain ⟨ca, rfl⟩ : ∃ ca, va = [.ref ca] := by
      cases aa with
      | cons h1 h2 => cases h2 with | nil => obtain ⟨r, rfl, _⟩ := h1; exact ⟨r, rfl⟩
    have hca : IT H ca c := by
      cases aa with
      | cons h1 h2 => obtain ⟨r, e, h⟩ := h1; cases e; exact h
    have hlc : c.length ≤ sizeLine := by omega
    refine ⟨by show 1 ≤ sizeLine; omega, fun l0 nl0 => ?_⟩
    refine ⟨_, rfl, l0, n, _, rfl, rfl, upd_same, by omega, by omega, by show 1 * _ ≤ _; rw [Int.toNat_natCast]; omega, fun lf nlf => ?_⟩
    have s1 : Same H (upd H l0 (.lst [.non])) := same_new nl0
    rw [Int.toNat_natCast, rep_non]
    refine ⟨_, rfl, a, _, rfl, .inl (.of ((s1.trans (same_new nlf)) _ _ ea)), fun lt1 nlt => ⟨_, _, rfl, ?_⟩⟩
    have s2 : Same (upd H l0 (.lst [.non])) _ := same_new (o := .lst (List.replicate n V.non)) nlf
    have hF0 := upd_same (H := upd H l0 (.lst [.non])) (a := lf) (o := .lst (List.replicate n V.non))
    have nFH : H lf = none := Same.free s1 nlf
    have nTH : H lt1 = none := Same.free (s1.trans s2) nlt
    have hTF : lf ≠ lt1 := ne_of_none hF0 nlt
    generalize upd (upd H l0 (.lst [.non])) lf (.lst (List.replicate n V.non)) = H1 at s2 hF0 nlt ⊢
    have s3 : Same H1 (upd H1 lt1 (.lst [.ref ca])) := same_new nlt
    have hT3 := upd_same (H := H1) (a := lt1) (o := .lst [.ref ca])
    have hF3 := s3 _ _ hF0
    generalize upd H1 lt1 (.lst [.ref ca]) = H3 at s3 hT3 hF3 ⊢
    have sH3 : Same H H3 := (s1.trans s2).trans s3
    refine ⟨fun m σ H' => ∃ (y4 y5 : Option V), σ = [some (.int (n : Int)), some (.ref a), some (.ref lf), some (.ref lt1), y4, y5, none, none, none, none] ∧ Same H H' ∧
      ((m = 1 ∧ H' lf = some (.lst (List.replicate n V.non)) ∧ H' lt1 = some (.lst [.ref ca])) ∨ (m = 0 ∧ H' lf = some (.lst (if isZ c = true then List.replicate n V.non else (List.replicate n V.non).set (leadP c) (.ref ca))) ∧ H' lt1 = some (.lst []))), ⟨1, _, _, rfl, sH3, .inl ⟨rfl, hF3, hT3⟩⟩, fun m σ H4 pv => ?_⟩
    obtain ⟨y4, y5, rfl, sm4, ⟨rfl, hF4, hT4⟩ | ⟨rfl, hF4, hT4⟩⟩ := pv
    · refine ⟨_, rfl, Nat.zero_le _, fun z nz => ?_⟩
      have sz : Same H4 (upd H4 z (.lst [])) := same_new nz
      refine rd_neNil (E := ecP) (l := [c]) ⟨_, sz _ _ hT4, .cons ⟨ca, rfl, sz _ _ (sm4 _ _ hca)⟩ .nil⟩ (flat_P _) upd_same ⟨_, rfl, iteY rfl ?_⟩
      have sm5 := sm4.trans sz
      have hF5 := sz _ _ hF4
      have hT5 := sz _ _ hT4
      generalize upd H4 z (.lst []) = H5 at sm5 hF5 hT5 ⊢
      refine ⟨fun σ H' => ∃ (y4 y5 : Option V), σ = [some (.int (n : Int)), some (.ref a), some (.ref lf), some (.ref lt1), y4, y5, none, none, none, none] ∧ Same H H' ∧
        (H' lf = some (.lst (if isZ c = true then List.replicate n V.non else (List.replicate n V.non).set (leadP c) (.ref ca))) ∧ H' lt1 = some (.lst [])), fun σ' H' ⟨y4, y5, h1, h2, h3⟩ => ⟨0, by decide, y4, y5, h1, h2, .inr ⟨rfl, h3⟩⟩, ?_⟩
      refine ⟨_, rfl, .inl ⟨rfl, _, .of hT5⟩, lt1, _, _, rfl, rfl, hT5, rfl, ?_⟩
      have sm6 : Same H (upd H5 lt1 (.lst [V.ref ca].dropLast)) := same_over sm5 nTH
      have hF6 : (upd H5 lt1 (.lst [V.ref ca].dropLast)) lf = some (.lst (List.replicate n V.non)) := by rw [upd_ne hTF]; exact hF5
      have hT6 := upd_same (H := H5) (a := lt1) (o := .lst [V.ref ca].dropLast)
      generalize upd H5 lt1 (.lst [V.ref ca].dropLast) = H6 at sm6 hF6 hT6 ⊢
      refine ⟨_, rfl, ca, c, rfl, sm6 _ _ hca, by omega, fun H7 sm7 => ?_⟩
      have hF7 := sm7 _ _ hF6
      have hT7 := sm7 _ _ hT6
      have sm8 := sm6.trans sm7
      cases hz : isZ c with
      | true =>
        have hfa : firstAt c = .non := by unfold firstAt; rw [hz]; rfl
        rw [hfa]
        refine ⟨_, rfl, rfl, _, rfl, ?_⟩
        refine iteN rfl (iteF ?_)
        refine ⟨_, rfl, rfl, _, rfl, iteN rfl ⟨_, _, rfl, sm8, ?_, hT7⟩⟩
        exact hF7
      | false =>
        have hll := lead_lt hz
        have hfa : firstAt c = .int ((leadP c : Nat) : Int) := by unfold firstAt; rw [hz]; rfl
        rw [hfa]
        refine ⟨_, rfl, rfl, _, rfl, ?_⟩
        have hat : (List.replicate n V.non)[leadP c]? = some V.non := by rw [List.getElem?_replicate, if_pos (by omega)]
        refine iteY (by simp) ⟨_, rfl, _, rfl, lf, _, _, _, rfl, rfl, .of hF7, atI_nat hat, rfl, _, rfl, iteY rfl ?_⟩
        refine ⟨_, rfl, _, rfl, _, rfl, lf, _, _, leadP c, rfl, rfl, hF7, ixN_of (by rw [List.length_replicate]; omega), ?_⟩
        exact ⟨_, _, rfl, same_over sm8 nFH, upd_same, by rw [upd_ne (Ne.symm hTF)]; exact hT7⟩
    · refine ⟨_, rfl, Nat.zero_le _, fun z nz => ?_⟩
      have sz : Same H4 (upd H4 z (.lst [])) := same_new nz
      refine rd_neNil (E := ecP) (l := []) ⟨_, sz _ _ hT4, .nil⟩ (flat_P _) upd_same ⟨_, rfl, iteN rfl ?_⟩
      have sm5 := sm4.trans sz
      have hF5 := sz _ _ hF4
      generalize upd H4 z (.lst []) = H5 at sm5 hF5 ⊢
      refine ⟨Nat.zero_le _, fun l8 n8 => ?_⟩
      have s8 : Same H5 (upd H5 l8 (.lst [])) := same_new n8
      have h8 := upd_same (H := H5) (a := l8) (o := .lst [])
      have sm8 := sm5.trans s8
      have hF8 := s8 _ _ hF5
      generalize upd H5 l8 (.lst []) = H8 at h8 sm8 hF8 ⊢
      refine ⟨_, rfl, _, rfl, by omega, by omega, ?_⟩
      rw [Int.toNat_natCast]
      refine for_it walk_range (fun i σ H' => ∃ (y4 y5 y9 : Option V) (st : Addr), σ = [some (.int (n : Int)), some (.ref a), some (.ref lf), some (.ref lt1), y4, y5, none, none, some (.ref st), y9] ∧ Same H8 H' ∧ LsE ecP H' st (stepsOf c i))
        ⟨_, _, _, l8, rfl, Same.refl _, [], h8, by rw [show stepsOf c 0 = [] from if_neg (by omega)]; exact .nil⟩ (fun _ _ _ _ _ => trivial) (fun i x σ H9 H' hi pv y => ?_) (fun σ H9 pv => ?_)
      · obtain ⟨y4, y5, y9, st, rfl, sm9, hst⟩ := pv
        obtain ⟨rfl, e0⟩ := y
        have e0 : x = .int ((0 : Int) + (i : Nat)) := e0
        rw [Int.zero_add] at e0
        subst e0
        have hF9 := sm9 _ _ hF8
        by_cases hh : isZ c = false ∧ leadP c = i
        · obtain ⟨hz, hli⟩ := hh
          rw [hz, if_neg (by decide)] at hF9
          have hat : ((List.replicate n V.non).set (leadP c) (V.ref ca))[i]? = some (V.ref ca) := by
            rw [hli, List.getElem?_set_self (by rw [List.length_replicate]; omega)]
          have hrd := atI_nat hat
          refine ⟨_, rfl, _, rfl, lf, _, _, _, rfl, rfl, .of hF9, hrd, rfl, _, rfl, iteY rfl ?_⟩
          have hca9 := sm9 _ _ (sm8 _ _ hca)
          have hld : c.getD i 0 = lead c := by rw [← hli]; rfl
          refine ⟨_, rfl, _, rfl, lf, _, _, _, rfl, rfl, .of hF9, hrd, _, rfl, ca, _, _, _, rfl, rfl, .of hca9, atI_nat (int_at (by omega)), _, _, rfl, rfl, _, rfl, ?_⟩
          have e1 : stepsOf c i = [] := if_neg (by omega)
          have e2 : stepsOf c (i + 1) = [nrm1 c] := if_pos ⟨hz, by omega⟩
          rw [e1] at hst
          rw [e2]
          have hst' : ∀ (pa : Addr) (H10 : Hp) (Qz : Prop), True := fun _ _ _ => trivial
          by_cases hp : c.getD i 0 > 0
          · have hnp : nrm1 c = c := by unfold nrm1; rw [if_pos (hld ▸ hp)]
            refine iteY (decide_eq_true hp) ⟨_, rfl, _, rfl, lf, _, _, _, rfl, rfl, .of hF9, hrd, ?_⟩
            have hpv : IT H' ca (nrm1 c) := by rw [hnp]; exact hca9
            obtain ⟨vf, ef, af⟩ := hst
            refine ⟨_, rfl, st, rfl, ⟨_, .of ef⟩, fun D3 nD3 => ?_⟩
            refine lc_gen walk_list ecP ([] : List Place) (fun r => some r) nD3 af.length.symm (by rw [af.length]; exact Nat.zero_le _) (fun H13 sm => .of (sm _ _ ef)) (fun j x H13 H14 b hb => by simp at hb) (fun H13 sm13 hl13 => ?_)
            obtain ⟨v3, e3, a3⟩ := hl13
            refine ⟨_, rfl, by show 1 ≤ sizeLine; omega, fun l4 n4 => ?_⟩
            have s4 : Same H13 (upd H13 l4 (.lst [.ref ca])) := same_new n4
            refine ⟨D3, l4, _, _, rfl, rfl, s4 _ _ e3, upd_same, by rw [a3.length]; show 0 + 1 ≤ sizeLine; omega, fun l5 n5 => ?_⟩
            have s5 : Same _ (upd (upd H13 l4 (.lst [.ref ca])) l5 (.lst (v3 ++ [.ref ca]))) := same_new n5
            refine ⟨_, _, _, l5, rfl, sm9.trans (sm13.trans (s4.trans s5)), _, upd_same, ?_⟩
            exact Paired.snoc (ecP.allKeep (Same.tups (s4.trans s5)) a3) ⟨ca, rfl, (s5 _ _ (s4 _ _ (sm13 _ _ hpv)))⟩
          · have hnp : nrm1 c = mulP (-1) c := by unfold nrm1; rw [if_neg (hld ▸ hp)]
            refine iteN (decide_eq_false hp) ⟨_, rfl, _, rfl, lf, _, _, _, rfl, rfl, .of hF9, hrd, _, rfl, ca, c, -1, rfl, hca9, hlc, by decide, by decide, fun H10 pa sm10 hpa => ?_⟩
            have hpv : IT H10 pa (nrm1 c) := by rw [hnp]; exact hpa
            obtain ⟨vf, ef, af⟩ := hst.same sm10
            refine ⟨_, rfl, st, rfl, ⟨_, .of ef⟩, fun D3 nD3 => ?_⟩
            refine lc_gen walk_list ecP ([] : List Place) (fun r => some r) nD3 af.length.symm (by rw [af.length]; exact Nat.zero_le _) (fun H13 sm => .of (sm _ _ ef)) (fun j x H13 H14 b hb => by simp at hb) (fun H13 sm13 hl13 => ?_)
            obtain ⟨v3, e3, a3⟩ := hl13
            refine ⟨_, rfl, by show 1 ≤ sizeLine; omega, fun l4 n4 => ?_⟩
            have s4 : Same H13 (upd H13 l4 (.lst [.ref pa])) := same_new n4
            refine ⟨D3, l4, _, _, rfl, rfl, s4 _ _ e3, upd_same, by rw [a3.length]; show 0 + 1 ≤ sizeLine; omega, fun l5 n5 => ?_⟩
            have s5 : Same _ (upd (upd H13 l4 (.lst [.ref pa])) l5 (.lst (v3 ++ [.ref pa]))) := same_new n5
            refine ⟨_, _, _, l5, rfl, (sm9.trans sm10).trans (sm13.trans (s4.trans s5)), _, upd_same, ?_⟩
            exact Paired.snoc (ecP.allKeep (Same.tups (s4.trans s5)) a3) ⟨pa, rfl, (s5 _ _ (s4 _ _ (sm13 _ _ hpv)))⟩
        · have e1 : stepsOf c (i + 1) = stepsOf c i := by
            unfold stepsOf
            by_cases hz : isZ c = false ∧ leadP c < i
            · rw [if_pos hz, if_pos ⟨hz.1, by omega⟩]
            · rw [if_neg hz, if_neg (fun q => hz ⟨q.1, by have : ¬ leadP c = i := fun e => hh ⟨q.1, e⟩; omega⟩)]
          have hat : (if isZ c = true then List.replicate n V.non else (List.replicate n V.non).set (leadP c) (V.ref ca))[i]? = some V.non := by
            cases hz : isZ c with
            | true => rw [if_pos rfl, List.getElem?_replicate, if_pos hi]
            | false => rw [if_neg (by decide), List.getElem?_set_ne (fun e => hh ⟨hz, e⟩), List.getElem?_replicate, if_pos hi]
          refine ⟨_, rfl, _, rfl, lf, _, _, _, rfl, rfl, .of hF9, atI_nat hat, rfl, _, rfl, iteN rfl ?_⟩
          exact ⟨_, _, _, st, rfl, sm9, by rw [e1]; exact hst⟩
      · obtain ⟨y4, y5, y9, st, rfl, sm9, hst⟩ := pv
        rw [← hcn, stepsOf_end] at hst
        exact ⟨_, rfl, q _ st (sm8.trans sm9) hst⟩
end
end K35
/-! text D24 -/
set_option Elab.async false
set_option linter.all false
set_option maxRecDepth 100000
set_option maxHeartbeats 4000000
/-! the law's walks -/
namespace K35
open PySem PySem.Spec PyProof.Rows L2
def PosR (R : List Place) : Prop := ∀ r ∈ R, 0 < lead r
def putS (R : List Place) (es : WE) (s : St3) : WE := putE es (redR R s.1, s.2.1) ((getE es (redR R s.1, s.2.1)).getD 0 + s.2.2)
def putW (R : List Place) (ss : List St3) : WE := ss.foldl (putS R) []
def lwOf (R : List Place) (ss : List St3) : WE := foldE [] ((putW R ss).filter fun e => e.2 != 0)
theorem putW_snoc (R : List Place) (ss : List St3) (s : St3) : putW R (ss ++ [s]) = putS R (putW R ss) s := by
  unfold putW
  rw [List.foldl_append]
  rfl
theorem putW_len (R : List Place) (ss : List St3) : (putW R ss).length ≤ ss.length := by
  have key : ∀ (ss : List St3) (es : WE), (ss.foldl (putS R) es).length ≤ es.length + ss.length := by
    intro ss
    induction ss with
    | nil => intro es; exact Nat.le_refl _
    | cons s ss ih =>
      intro es
      have h1 := ih (putS R es s)
      have h2 := length_putE es (redR R s.1, s.2.1) ((getE es (redR R s.1, s.2.1)).getD 0 + s.2.2)
      rw [List.foldl_cons, List.length_cons]
      unfold putS at h1 ⊢
      omega
  have := key ss []
  simpa [putW] using this
theorem lwOf_len (R : List Place) (ss : List St3) : (lwOf R ss).length ≤ ss.length := by
  have h1 := length_foldE ((putW R ss).filter fun e => e.2 != 0) []
  have h2 := List.length_filter_le (fun e : (Place × Nat) × Int => e.2 != 0) (putW R ss)
  have h3 := putW_len R ss
  unfold lwOf
  simp at h1
  omega
theorem stp_unit {q : Place} {n i : Nat} (hq : q.length = n) (hi : i < n) (d : Int) : List.zipWith (fun x y => x + y) q (mulP d (unitP n i)) = stp q i d := by
  refine List.ext_getElem? fun j => ?_
  unfold stp mulP unitP
  simp only [List.getElem?_zipWith, List.getElem?_map]
  by_cases hj : j < n
  · rw [List.getElem?_range hj, List.getElem?_eq_getElem (by omega)]
    simp only [Option.map_some]
    by_cases e : j = i
    · subst e
      rw [List.getElem?_append_right (by simp; omega)]
      simp [List.getD_eq_getElem?_getD, List.getElem?_eq_getElem (show j < q.length by omega), Nat.min_eq_left (show j ≤ q.length by omega)]
    · rw [if_neg e]
      by_cases h2 : j < i
      · rw [List.getElem?_append_left (by simp; omega), List.getElem?_take_of_lt h2, List.getElem?_eq_getElem (by omega)]
        simp
      · rw [List.getElem?_append_right (by simp; omega)]
        simp only [List.length_take, Nat.min_eq_left (show i ≤ q.length by omega)]
        obtain ⟨k, rfl⟩ : ∃ k, j = i + 1 + k := ⟨j - i - 1, by omega⟩
        rw [show i + 1 + k - i = k + 1 by omega, List.getElem?_cons_succ, List.getElem?_drop, List.getElem?_eq_getElem (by omega)]
        simp
  · rw [List.getElem?_eq_none (l := q) (by omega), List.getElem?_eq_none (l := List.take i q ++ _) (by simp; omega)]
theorem nodup_putE {κ α : Type} [DecidableEq κ] {es : List (κ × α)} (h : (es.map (·.1)).Nodup) (k : κ) (v : α) : ((putE es k v).map (·.1)).Nodup := by
  unfold putE
  split
  · rw [List.map_map]
    have : (es.map ((fun x => x.1) ∘ fun e => if e.1 = k then (e.1, v) else e)) = es.map (·.1) := by
      refine List.map_congr_left fun e _ => ?_
      show (if e.1 = k then (e.1, v) else e).1 = e.1
      split <;> rfl
    rw [this]
    exact h
  · rename_i hs
    rw [List.map_append, List.nodup_append]
    refine ⟨h, by simp, fun x hx y hy => ?_⟩
    rw [show y = k from List.mem_singleton.mp hy]
    rintro rfl
    obtain ⟨e, he, rfl⟩ := List.mem_map.mp hx
    apply hs
    unfold getE
    rw [Option.isSome_map, List.find?_isSome]
    exact ⟨e, he, by simp⟩
theorem nodup_putW (R : List Place) (ss : List St3) : ((putW R ss).map (·.1)).Nodup := by
  have key : ∀ (ss : List St3) (es : WE), (es.map (·.1)).Nodup → ((ss.foldl (putS R) es).map (·.1)).Nodup := by
    intro ss
    induction ss with
    | nil => exact fun _ h => h
    | cons s ss ih => exact fun es h => ih _ (nodup_putE h _ _)
  exact key ss [] .nil
theorem getE_of {κ α : Type} [DecidableEq κ] : ∀ {es : List (κ × α)} {k : κ} {n : α}, (es.map (·.1)).Nodup → (k, n) ∈ es → getE es k = some n
  | [], _, _, _, h => nomatch h
  | e :: es, k, n, hn, h => by
    obtain ⟨h1, h2⟩ := List.nodup_cons.mp hn
    rcases List.mem_cons.mp h with rfl | h
    · exact getE_pos rfl
    · rw [getE_neg]
      · exact getE_of h2 h
      · rintro rfl
        exact h1 (List.mem_map.mpr ⟨_, h, rfl⟩)
theorem foldE_nil {κ α : Type} [DecidableEq κ] : ∀ (es acc : List (κ × α)), ((acc ++ es).map (·.1)).Nodup → foldE acc es = acc ++ es
  | [], acc, _ => by simp [foldE]
  | e :: es, acc, h => by
    have hp : putE acc e.1 e.2 = acc ++ [e] := by
      unfold putE
      rw [if_neg]
      intro hs
      unfold getE at hs
      rw [Option.isSome_map, List.find?_isSome] at hs
      obtain ⟨x, hx, he⟩ := hs
      rw [List.map_append, List.nodup_append] at h
      exact h.2.2 _ (List.mem_map.mpr ⟨x, hx, rfl⟩) _ (List.mem_map.mpr ⟨e, List.mem_cons_self .., rfl⟩) (by simpa using he)
    show foldE (putE acc e.1 e.2) es = _
    rw [hp, foldE_nil es (acc ++ [e]) (by rw [List.append_assoc]; exact h), List.append_assoc]
    rfl
theorem lwOf_eq (R : List Place) (ss : List St3) : lwOf R ss = (putW R ss).filter fun e => e.2 != 0 := by
  unfold lwOf
  rw [foldE_nil _ [] ?_]
  · rfl
  · have := nodup_putW R ss
    rw [List.nil_append]
    exact List.Nodup.sublist (List.Sublist.map _ List.filter_sublist) this
theorem nodup_lwOf (R : List Place) (ss : List St3) : ((lwOf R ss).map (·.1)).Nodup := by
  rw [lwOf_eq]
  exact List.Nodup.sublist (List.Sublist.map _ List.filter_sublist) (nodup_putW R ss)
theorem pairs_keep {H H' : Hp} {vs : List V} {es : WE} (h : PairsAt kcS H vs es) (s : Same H H') : PairsAt kcS H' vs es := by
  induction h with
  | nil => exact .nil
  | cons h _ ih =>
    obtain ⟨T, a, h1, h2, h3⟩ := h
    exact .cons ⟨T, a, h1, s _ _ h2, kcS.keep (Same.tups s) h3⟩ ih
theorem pairs_upd {H : Hp} {D : Addr} {vs ws xs : List V} {es : WE} (h : PairsAt kcS H vs es) (e : H D = some (.lst ws)) : PairsAt kcS (upd H D (.lst xs)) vs es := by
  induction h with
  | nil => exact .nil
  | cons h _ ih =>
    obtain ⟨T, a, h1, h2, h3⟩ := h
    have hne : T ≠ D := by
      rintro rfl
      rw [e] at h2
      cases h2
    exact .cons ⟨T, a, h1, by rw [upd_ne hne]; exact h2, kcS.keep (stup_lst e) h3⟩ ih
theorem take_filter {α : Type} (p : α → Bool) {es : List α} {i : Nat} {e : α} (h : es[i]? = some e) : (es.take (i + 1)).filter p = (es.take i).filter p ++ (if p e = true then [e] else []) := by
  rw [take_snoc h, List.filter_append]
  congr 1
  rw [List.filter_cons, List.filter_nil]
section
variable {P : Program} {w : World} {K : PySem.W.Frag} {mg : Str → Option Value} {base : Heap} {f : Addr} {fd : FuncData}
abbrev s__law_named : Stmt := top 66
theorem sc__law_named : FnScope ["_law_rows", "_law_counts_now", "_law_row", "_law_at"] ["_law_rows", "_law_counts_now"] (defScope s__law_named) := ⟨rfl, rfl, rfl, by decide +kernel, rfl, by decide +kernel, by decide +kernel⟩
def sp__law_named : Sp := fun vs H Q _ => ∃ (r a : Addr) (n : Nat) (R : List Place) (p : Place), vs = [.ref r, .ref a] ∧ LsE ecP H r R ∧ RowsOk n R ∧ PosR R ∧ IT H a p ∧ p.length = n ∧ (R ≠ [] → Bp p) ∧ ∀ H' c, Same H H' → IT H' c (redR R p) → Q (.ref c) H'
theorem c__law_named {fA fY fL : Addr} {fdA fdY fdL : FuncData} (F : FnP K "_law_named" "_law_named" s__law_named f fd) (B : Fre mg) (cA : Cal P w K mg base 1 ["_law_row"] sp__law_first_at fA fdA) (gA : mg "_law_first_at" = some (.ref fA))
    (cY : Cal P w K mg base 1 ["_law_one", "_law_times"] sp_scaled fY fdY) (gY : mg "_law_by" = some (.ref fY)) (cL : Cal P w K mg base 1 ["_law_one", "_law_other"] (sp_zip fun x y => x - y) fL fdL) (gL : mg "_law_less" = some (.ref fL)) : Cal P w K mg base 2 ["_law_rows", "_law_counts_now"] sp__law_named f fd := by
  refine F.cal (F.ok sc__law_named (fun vs H Q E h => ?_) (fun cdv A outer s H vs Q E hr h => ?_)) (fun _ _ _ _ _ _ us hl => match us, hl with | [_, _], _ => rfl)
  · obtain ⟨r, a, n, R, p, rfl, _⟩ := h
    rfl
  · obtain ⟨r, a, n, R, p, rfl, ⟨vr, er, ar⟩, hR, hP, ha, hp, hB, q⟩ := h
    have nd := sc__law_named.nd
    refine ⟨_, PSs.nox (pss_cons (ps_for PassesOwn.never rfl (pi_list (pv 0)) (pg_name (i := 2) nd rfl (.inl rfl)) (pss_cons (ps_set (i := 3) nd rfl (.inl rfl) (pe_cal cA (hr.mono (by decide)) rfl gA (pa_cons (pv 2) pa_nil))) (pss_one (ps_set (i := 1) nd rfl (.inl rfl) (pe_cal cL (hr.mono (by decide)) rfl gL (pa_cons (pv 1) (pa_cons (pe_cal cY (hr.mono (by decide)) rfl gY (pa_cons (pv 2) (pa_cons (pe_op op_fdivN (pe_ix ix_tup (pv 1) (pv 3) (fun _ _ => rfl)) (pe_callB (call_max2 rfl) (by rfl) B.max (by decide +kernel) (pa_cons pe_int (pa_cons (pe_ix ix_tup (pv 2) (pv 3) (fun _ _ => rfl)) pa_nil)))) pa_nil))) pa_nil))))))) (pss_one (ps_ret (pv 1)))), ?_⟩
    have h3 : (3 : Nat) ≤ sizeLine := by decide
    refine ⟨_, rfl, r, rfl, ⟨_, .of er⟩, ?_⟩
    refine for_it walk_list (fun i σ H1 => ∃ c y2 y3, σ = [some (.ref r), some (.ref c), y2, y3] ∧ Same H H1 ∧ IT H1 c (redR (R.take i) p)) ⟨a, _, _, rfl, Same.refl _, ha⟩ (fun i σ H1 _ ⟨_, _, _, _, sm, _⟩ => .of (sm _ _ er)) (fun i x σ H1 H' hi pv y => ?_) (fun σ H1 pv => ?_)
    · obtain ⟨c, y2, y3, rfl, sm, hc⟩ := pv
      obtain ⟨rfl, g1⟩ := y
      have hRl := hR.one
      have hi0 : i = 0 := by have := ar.length; omega
      subst hi0
      obtain ⟨r0, rfl⟩ : ∃ r0, R = [r0] := by
        rcases one_cases hR.one with rfl | q
        · have := ar.length; simp at this; subst this; simp at hi
        · exact q
      obtain ⟨l1, l2, l3⟩ := hR.row r0 (List.mem_singleton.mpr rfl)
      obtain ⟨ra, rfl, hra⟩ := LsE.walk ar (Same.tups sm) g1 (b := r0) rfl
      have hbp := hB (by simp)
      have hB1 := hbp.at_ (leadP r0)
      have hB2 := l3.at_ (leadP r0)
      have hn := hR.le
      have hll := lead_lt l2
      have hpos := hP r0 (List.mem_singleton.mpr rfl)
      have hld : lead r0 = r0.getD (leadP r0) 0 := rfl
      have hfa : firstAt r0 = .int ((leadP r0 : Nat) : Int) := by unfold firstAt; rw [l2]; rfl
      have hc0 : IT _ c p := hc
      refine ⟨_, rfl, ra, r0, rfl, hra, by omega, fun H2 sm2 => ?_⟩
      rw [hfa]
      have hc2 := sm2 _ _ hc0
      have hra2 := sm2 _ _ hra
      have hq : (Int.fdiv (p.getD (leadP r0) 0) (r0.getD (leadP r0) 0)).natAbs ≤ (p.getD (leadP r0) 0).natAbs := Int.natAbs_fdiv_le_natAbs _ _
      refine ⟨_, rfl, _, rfl, _, rfl, _, rfl, c, _, _, _, rfl, rfl, .of hc2, atI_nat (int_at (by omega)), _, rfl, _, rfl, ra, _, _, _, rfl, rfl, .of hra2, atI_nat (int_at hll), _, _, rfl, ?_⟩
      have hmx : (if r0.getD (leadP r0) 0 > 1 then r0.getD (leadP r0) 0 else 1) = r0.getD (leadP r0) 0 := by split <;> omega
      rw [hmx]
      refine ⟨_, _, rfl, rfl, ⟨by omega, by omega⟩, ra, r0, _, rfl, hra2, by omega, by omega, by omega, fun H3 d sm3 hd => ?_⟩
      refine ⟨c, d, p, _, rfl, sm3 _ _ hc2, hd, by omega, fun H4 e sm4 he => ?_⟩
      exact ⟨e, _, _, rfl, sm.trans (sm2.trans (sm3.trans sm4)), he⟩
    · obtain ⟨c, y2, y3, rfl, sm, hc⟩ := pv
      have e : R.take vr.length = R := List.take_of_length_le (by rw [ar.length]; exact Nat.le_refl _)
      rw [e] at hc
      exact ⟨_, rfl, q _ _ sm hc⟩
/-! _law_walk_of -/
abbrev s__law_walk_of : Stmt := top 67
theorem sc__law_walk_of : FnScope ["_law_rows", "_law_one", "_law_letters_here", "_law_begin_here", "_law_found", "_law_here", "_law_sign", "_law_at", "_law_way", "_law_there", "_law_key"] ["_law_rows", "_law_one", "_law_letters_here", "_law_begin_here"] (defScope s__law_walk_of) := ⟨rfl, rfl, rfl, by decide +kernel, rfl, by decide +kernel, by decide +kernel⟩
def sp__law_walk_of (P : Program) (w : World) : Sp := fun vs H Q _ => ∃ (r a : Addr) (L : List Nat) (v : Wd) (R : List Place) (p : Place), vs = [.ref r, .str (wd L v), .str (lt L), .ref a] ∧ LG L ∧ WF L.length v ∧ v.length < sizeLine ∧ LsE ecP H r R ∧ RowsOk L.length R ∧ PosR R ∧ IT H a p ∧ p.length = L.length ∧
  (R ≠ [] → ∀ s ∈ streetsOf p v, Bp s.1) ∧ ∀ H' d, Same H H' → FN P w kcS H' d (lwOf R (streetsOf p v)) → Q (.ref d) H'
theorem c__law_walk_of {fN fA fU fY : Addr} {fdN fdA fdU fdY : FuncData} (F : FnP K "_law_walk_of" "_law_walk_of" s__law_walk_of f fd) (B : Fre mg) (cN : Cal P w K mg base 2 ["_law_rows", "_law_counts_now"] sp__law_named fN fdN) (gN : mg "_law_named" = some (.ref fN))
    (cA : Cal P w K mg base 1 ["_law_one", "_law_other"] (sp_zip fun x y => x + y) fA fdA) (gA : mg "_law_add" = some (.ref fA)) (cU : Cal P w K mg base 1 ["_law_width", "_law_at"] sp__law_unit fU fdU) (gU : mg "_law_unit" = some (.ref fU))
    (cY : Cal P w K mg base 1 ["_law_one", "_law_times"] sp_scaled fY fdY) (gY : mg "_law_by" = some (.ref fY)) : Cal P w K mg base 3 ["_law_rows", "_law_one", "_law_letters_here", "_law_begin_here"] (sp__law_walk_of P w) f fd := by
  refine F.cal (F.ok sc__law_walk_of (fun vs H Q E h => ?_) (fun cdv A outer s H vs Q E hr h => ?_)) (fun _ _ _ _ _ _ us hl => match us, hl with | [_, _, _, _], _ => rfl)
  · obtain ⟨r, a, L, v, R, p, rfl, _⟩ := h
    rfl
  · obtain ⟨r, a, L, v, R, p, rfl, lg, hv, hz, hrr, hR, hP, ha, hp, hB, q⟩ := h
    have nd := sc__law_walk_of.nd
    refine ⟨_, PSs.nox (pss_cons (ps_asg (pe_tup (pa_cons (pe_nnew (c := kcS)) (pa_cons (pv 3) pa_nil))) (pg_tup rfl (pgs_cons (pg_name (i := 4) nd rfl (.inr rfl)) (pgs_cons (pg_name (i := 5) nd rfl (.inl rfl)) pgs_nil)))) (pss_cons (ps_for PassesOwn.never rfl (pi_str (pv 1)) (pg_name (i := 6) nd rfl (.inl rfl)) (pss_cons (ps_set (i := 7) nd rfl (.inl rfl) (pe_bmS PySem.F.plainAttrs_str PySem.F.slot_str_index PySem.F.type_str_index (mt_indexX rfl takes0) (pv 2) (pa_cons (pe_lower (pv 6)) pa_nil))) (pss_cons (ps_set (i := 8) nd rfl (.inl rfl) (pe_ifExp (pt_cmpR op_eq (pv 6) (pe_ix ix_str (pv 2) (pv 7) (fun _ _ => rfl)) (nomark _)) pe_int (pe_un un_neg pe_int))) (pss_cons (ps_set (i := 9) nd rfl (.inl rfl) (pe_cal cA (hr.mono (by decide)) rfl gA (pa_cons (pv 5) (pa_cons (pe_cal cY (hr.mono (by decide)) rfl gY (pa_cons (pe_cal cU (hr.mono (by decide)) rfl gU (pa_cons (pe_callB call_len_str (by rfl) B.len PySem.boot_len (pa_cons (pv 2) pa_nil)) (pa_cons (pv 7) pa_nil))) (pa_cons (pv 8) pa_nil))) pa_nil)))) (pss_cons (ps_set (i := 10) nd rfl (.inl rfl) (pe_tup (pa_cons (pe_cal cN (hr.mono (by decide)) rfl gN (pa_cons (pv 0) (pa_cons (pe_ifExp (pt_cmpR op_gt (pv 8) pe_int (nomark _)) (pv 5) (pv 9)) pa_nil))) (pa_cons (pv 7) pa_nil)))) (pss_cons (ps_nput (c := kcS) hr.units (pv 4) (pv 10) (pe_op op_add (pe_nget2 (c := kcS) hr.units (pv 4) (pv 10) pe_int ⟨rfl, rfl, rfl, rfl⟩) (pv 8)) rfl) (pss_one (ps_set (i := 5) nd rfl (.inl rfl) (pv 9))))))))) (pss_frz (pss_one (ps_ret (pe_frz (pe_callTy (call_dictN (c := kcS) ⟨_, hr⟩ rfl) (by rfl) B.dict (by decide +kernel) (pa_cons (pe_lc (own := [("_law_key", 10)]) (g := gName 10) (te := tTup (tCons (tVar 10) (tCons (tNGet P w kcS (tVar 4) (tVar 10)) tNil))) (tt := tTest (tOp rNe (tNGet P w kcS (tVar 4) (tVar 10)) (tC (.int 0)))) rfl nd (pi_nkeys (c := kcS) (pv 4)) (blkOk_by (N := ["_law_rows", "_law_one", "_law_letters_here", "_law_begin_here", "_law_found", "_law_here", "_law_sign", "_law_at", "_law_way", "_law_there", "_law_key"]) (sc := defScope s__law_walk_of) (by decide +kernel)) (fun _ _ _ _ _ => (pg_name (i := 10) nd rfl (.inl rfl))) (fun _ _ _ _ _ => (pts_one (pt_cmpR op_ne (pe_nget (c := kcS) hr.units (pv 4) (pv 10) (fun _ _ => rfl)) pe_int (nomark _)))) (fun _ _ _ _ _ => (pe_tup (pa_cons (pv 10) (pa_cons (pe_nget (c := kcS) hr.units (pv 4) (pv 10) (fun _ _ => rfl)) pa_nil))))) pa_nil)))))))), ?_⟩
    have hL3 := lg.le
    have h100 : (100 : Nat) ≤ sizeLine := by decide
    have hltl : (lt L).length = L.length := lt_size L
    refine fun fo o nf hd0 no => ⟨_, rfl, by show 2 ≤ sizeLine; decide, fun T nT => ?_⟩
    have s1 : Same H (upd H fo o) := same_new nf
    generalize upd H fo o = H1 at hd0 s1 nT ⊢
    have s2 : Same H1 (upd H1 T (.tup [.ref fo, .ref a])) := same_new nT
    refine ⟨T, _, rfl, .of upd_same, rfl, _, _, rfl, _, _, rfl, rfl, ?_⟩
    have hd1 := hd0.same s2
    have s12 := s1.trans s2
    generalize upd H1 T (.tup [.ref fo, .ref a]) = H2 at hd1 s2 s12 ⊢
    refine ⟨_, rfl, _, rfl, ?_⟩
    refine for_it walk_wd (fun i σ H3 => ∃ (h : Addr) (y6 y7 y8 y9 y10 : Option V) (pre : List St3) (qp : Place), σ = [some (.ref r), some (.str (wd L v)), some (.str (lt L)), some (.ref a), some (.ref fo), some (.ref h), y6, y7, y8, y9, y10] ∧ SameX fo H2 H3 ∧ DN P w kcS H3 fo (putW R pre) ∧ IT H3 h qp ∧ qp.length = L.length ∧ pre.length ≤ i ∧ pre ++ streetsOf qp (v.drop i) = streetsOf p v)
      ⟨a, _, _, _, _, _, [], p, rfl, SameX.refl _ _, hd1, s12 _ _ ha, hp, Nat.le_refl _, rfl⟩ (fun _ _ _ _ _ => trivial) (fun i x σ H3 H' hi pv y => ?_) (fun σ H3 pv => ?_)
    · obtain ⟨h, y6, y7, y8, y9, y10, pre, qp, rfl, sx, hd, hh, hq, hal, he⟩ := pv
      obtain ⟨rfl, g, hg, rfl⟩ := y
      have hgl := hv g (List.mem_of_getElem? hg)
      have hdr : v.drop i = g :: v.drop (i + 1) := by
        obtain ⟨h1, h2⟩ := List.getElem?_eq_some_iff.mp hg
        rw [List.drop_eq_getElem_cons h1, h2]
      rw [hdr] at he
      have smH : Same H H' := fun b u hb => by
        have hbf : b ≠ fo := ne_of_none hb nf
        exact sx b u hbf (s12 b u hb)
      refine ⟨_, rfl, rfl, _, rfl, ⟨_, rfl⟩, _, rfl, rfl, by show 1 ≤ 5592405; decide, lt L, Txt.lower (wd L [g]), rfl, rfl, fun k hk => ?_, fun hn => ?_⟩
      · rw [lg.lower hgl, lg.index hgl] at hk
        cases hk
        obtain ⟨gi, gb⟩ := g
        have hgi : gi < L.length := hgl
        have hci : (lt L).cps.toList[gi]? = some (cd L (gi, true)) := by
          show L[gi]? = some (L.getD gi 0)
          rw [List.getD_eq_getElem?_getD, List.getElem?_eq_getElem hgi]
          rfl
        refine ⟨_, rfl, _, rfl, _, rfl, lt L, _, _, rfl, rfl, by rw [hltl]; omega, atI_nat hci, rfl, _, rfl, ?_⟩
        have hsame : decide (V.str (wd L [(gi, gb)]) = V.str ⟨#[cd L (gi, true)]⟩) = gb := by
          cases gb
          · refine decide_eq_false fun q => ?_
            injection q with q
            have q2 : cd L (gi, false) = cd L (gi, true) := by
              have := congrArg (fun z : Str => z.cps[0]?) q
              simpa [wd] using this
            exact absurd (lg.cd_inj (g := (gi, false)) (k := (gi, true)) hgl hgl q2) (by simp)
          · exact decide_eq_true rfl
        have hBs : R ≠ [] → ∀ s, s = (if gb = true then (qp, gi, (1 : Int)) else (stp qp gi (-1), gi, -1)).1 → Bp s := fun z s hs => by
          have hm : (if gb = true then (qp, gi, (1 : Int)) else (stp qp gi (-1), gi, -1)) ∈ streetsOf p v := by
            rw [← he]
            refine List.mem_append_right _ ?_
            cases gb
            · exact List.mem_cons_self ..
            · exact List.mem_cons_self ..
          rw [hs]
          exact hB z _ hm
        cases gb
        · refine iteN hsame ⟨_, rfl, ?_⟩
          -- there
          refine ⟨_, rfl, _, rfl, lt L, rfl, by rw [hltl]; omega, _, rfl, L.length, gi, by rw [hltl]; rfl, by omega, fun H2 c1 sm2 hc1 => ?_⟩
          refine ⟨_, rfl, c1, _, _, rfl, hc1, by simp [unitP]; omega, by decide, by decide, fun H3 c2 sm3 hc2 => ?_⟩
          refine ⟨h, c2, qp, _, rfl, sm3 _ _ (sm2 _ _ hh), hc2, by omega, fun H4 c3 sm4 hc3 => ?_⟩
          rw [stp_unit hq (by omega)] at hc3
          have sm24 := sm2.trans (sm3.trans sm4)
          have hh4 := sm24 _ _ hh
          refine ⟨_, rfl, _, rfl, _, _, rfl, rfl, _, rfl, ?_⟩
          refine iteF ⟨_, rfl, ?_⟩
          refine ⟨r, c3, L.length, R, stp qp gi (-1), rfl, hrr.same (smH.trans sm24), hR, hP, hc3, (by rw [stp_len _ _ _ (by omega)]; exact hq), fun z => hBs z _ rfl, fun H5 c4 sm5 hc4 => ?_⟩
          refine ⟨_, rfl, by show 2 ≤ sizeLine; decide, fun t nt => ?_⟩
          have st : Same H5 (upd H5 t (.tup [.ref c4, .int (gi : Int)])) := same_new nt
          have hkey : kcS.at_ (upd H5 t (.tup [.ref c4, .int (gi : Int)])) t (redR R (stp qp gi (-1)), gi) := ⟨c4, st _ _ hc4, upd_same⟩
          have hc35 := st _ _ (sm5 _ _ hc3)
          have sm6 := sm24.trans (sm5.trans st)
          generalize upd H5 t (.tup [.ref c4, .int (gi : Int)]) = H6 at st hkey hc35 sm6 ⊢
          have hd6 := hd.same sm6
          refine ⟨_, rfl, fo, rfl, ⟨_, hd6.rd⟩, _, rfl, t, _, _, 0, rfl, hkey, hd6.rd, rfl, _, rfl, _, _, rfl, rfl, _, rfl, _, rfl, fo, t, _, _, _, rfl, rfl, rfl, hkey, hd6, by have := putW_len R pre; omega, fun o2 hd7 => ?_⟩
          have sx7 : SameX fo H6 (upd H6 fo o2) := sameX_upd
          have hc37 := hd6.stx sx7 _ _ hc35
          refine ⟨_, rfl, c3, _, _, _, _, _, pre ++ [(stp qp gi (-1), gi, (-1))], stp qp gi (-1), rfl, (sx.trans (Same.x sm6)).trans sx7, by rw [putW_snoc]; exact hd7, hc37, by rw [stp_len _ _ _ (by omega)]; exact hq, by simp; omega, by rw [List.append_assoc]; exact he⟩
        · refine iteY hsame ?_
          -- there
          refine ⟨_, rfl, _, rfl, lt L, rfl, by rw [hltl]; omega, _, rfl, L.length, gi, by rw [hltl]; rfl, by omega, fun H2 c1 sm2 hc1 => ?_⟩
          refine ⟨_, rfl, c1, _, _, rfl, hc1, by simp [unitP]; omega, by decide, by decide, fun H3 c2 sm3 hc2 => ?_⟩
          refine ⟨h, c2, qp, _, rfl, sm3 _ _ (sm2 _ _ hh), hc2, by omega, fun H4 c3 sm4 hc3 => ?_⟩
          rw [stp_unit hq (by omega)] at hc3
          have sm24 := sm2.trans (sm3.trans sm4)
          have hh4 := sm24 _ _ hh
          refine ⟨_, rfl, _, rfl, _, _, rfl, rfl, _, rfl, ?_⟩
          refine iteT ⟨_, rfl, ?_⟩
          refine ⟨r, h, L.length, R, qp, rfl, hrr.same (smH.trans sm24), hR, hP, hh4, hq, fun z => hBs z _ rfl, fun H5 c4 sm5 hc4 => ?_⟩
          refine ⟨_, rfl, by show 2 ≤ sizeLine; decide, fun t nt => ?_⟩
          have st : Same H5 (upd H5 t (.tup [.ref c4, .int (gi : Int)])) := same_new nt
          have hkey : kcS.at_ (upd H5 t (.tup [.ref c4, .int (gi : Int)])) t (redR R (qp), gi) := ⟨c4, st _ _ hc4, upd_same⟩
          have hc35 := st _ _ (sm5 _ _ hc3)
          have sm6 := sm24.trans (sm5.trans st)
          generalize upd H5 t (.tup [.ref c4, .int (gi : Int)]) = H6 at st hkey hc35 sm6 ⊢
          have hd6 := hd.same sm6
          refine ⟨_, rfl, fo, rfl, ⟨_, hd6.rd⟩, _, rfl, t, _, _, 0, rfl, hkey, hd6.rd, rfl, _, rfl, _, _, rfl, rfl, _, rfl, _, rfl, fo, t, _, _, _, rfl, rfl, rfl, hkey, hd6, by have := putW_len R pre; omega, fun o2 hd7 => ?_⟩
          have sx7 : SameX fo H6 (upd H6 fo o2) := sameX_upd
          have hc37 := hd6.stx sx7 _ _ hc35
          refine ⟨_, rfl, c3, _, _, _, _, _, pre ++ [(qp, gi, 1)], stp qp gi 1, rfl, (sx.trans (Same.x sm6)).trans sx7, by rw [putW_snoc]; exact hd7, hc37, by rw [stp_len _ _ _ (by omega)]; exact hq, by simp; omega, by rw [List.append_assoc]; exact he⟩
      · exfalso
        rw [lg.lower hgl, lg.index hgl] at hn
        cases hn
    · obtain ⟨h, y6, y7, y8, y9, y10, pre, qp, rfl, sx, hd, hh, hq, hal, he⟩ := pv
      have e0 : v.drop v.length = [] := List.drop_length
      rw [e0] at he
      have he : pre = streetsOf p v := by simpa [streetsOf] using he
      subst he
      have hlen := putW_len R (streetsOf p v)
      rw [streets_len] at hlen
      have hnd := nodup_putW R (streetsOf p v)
      unfold lwOf at q
      generalize putW R (streetsOf p v) = es at hd q hlen hnd
      obtain ⟨kvs, ek, hek⟩ := _root_.id hd
      refine ⟨fo, _, ek, True.intro, fun od2 => ?_⟩
      have t6 : SameX fo H3 (upd H3 fo (.frz od2 (hoN P w fo kvs))) := sameX_upd
      have hf : FNo P w kcS (upd H3 fo (.frz od2 (hoN P w fo kvs))) fo od2 es := ⟨kvs, upd_same, hek.keep (hd.stx t6)⟩
      have s6 : Same H (upd H3 fo (.frz od2 (hoN P w fo kvs))) := fun b u hb => by
        have hbf : b ≠ fo := ne_of_none hb nf
        exact (sx.trans t6) b u hbf (s12 b u hb)
      generalize upd H3 fo (.frz od2 (hoN P w fo kvs)) = H6 at hf s6 ⊢
      refine ⟨_, rfl, fo, od2, _, rfl, hf, fun D nD => ?_⟩
      refine lc_it walk_nkeys (fun i H7 => Same H6 H7 ∧ ∃ vs, H7 D = some (.lst vs) ∧ PairsAt kcS H7 vs ((es.take i).filter fun e => e.2 != 0)) ⟨same_new nD, [], upd_same, .nil⟩ (fun i H7 _ ⟨sm, _⟩ => hf.same sm) (fun i y H7 H8 hi pv yy => ?_) (fun H7 pv => ?_)
      · obtain ⟨sm, vs, e7, p7⟩ := pv
        obtain ⟨rfl, k, n, a1, he2, rfl, hk⟩ := yy
        have hf7 := (hf.same sm).f.rd
        have hg := getE_of hnd (List.mem_of_getElem? he2)
        have htf := take_filter (fun e : (Place × Nat) × Int => e.2 != 0) he2
        refine ⟨rfl, _, rfl, _, rfl, fo, a1, k, es, n, rfl, rfl, hk, hf7, hg, rfl, _, rfl, ?_⟩
        by_cases e0 : n = 0
        · refine iteN (neZ_no e0) ⟨sm, vs, e7, ?_⟩
          rw [htf, e0]
          simpa using p7
        · refine iteY (neZ_yes e0) ⟨_, rfl, _, rfl, _, rfl, fo, a1, k, es, n, rfl, rfl, hk, hf7, hg, by show 2 ≤ sizeLine; omega, fun t nt => ?_⟩
          have st : Same H8 (upd H8 t (.tup [.ref a1, .int n])) := same_new nt
          have hvl : vs.length ≤ es.length := by
            rw [Paired.length p7]
            exact Nat.le_trans (List.length_filter_le _ _) (by rw [List.length_take]; omega)
          refine ⟨vs, st _ _ e7, by omega, same_over (sm.trans st) nD, _, upd_same, ?_⟩
          rw [htf, if_pos (by simpa using e0)]
          exact pairs_upd (Paired.snoc (pairs_keep p7 st) ⟨t, a1, rfl, upd_same, kcS.keep (Same.tups st) hk⟩) (st _ _ e7)
      · obtain ⟨sm, vs, e7, p7⟩ := pv
        rw [List.take_length] at p7
        refine ⟨D, vs, _, rfl, .of e7, p7, fun p o np no hdn => ?_⟩
        obtain ⟨u, hu, hm, hfr⟩ := hdn.frz
        refine ⟨p, u, hu, hm, fun od => ?_⟩
        exact q _ p (same_over ((s6.trans sm).trans (same_new np)) (Same.free (s6.trans sm) np)) (hfr od)
end
end K35
/-! text D25 -/
set_option Elab.async false
set_option linter.all false
set_option maxRecDepth 100000
set_option maxHeartbeats 4000000
/-! the law's walks, 2 -/
namespace K35
open PySem PySem.Spec PyProof.Rows L2
def shE (p : Place) (e : (Place × Nat) × Int) : St3 := (addP e.1.1 p, e.1.2, e.2)
def turnsM (n : Nat) (t u v : Wd) : Bool := eqE (lwOf [] (streetsOf (zeroP n) (t ++ u ++ inv t))) (lwOf [] (streetsOf (zeroP n) v))
section
variable {P : Program} {w : World} {K : PySem.W.Frag} {mg : Str → Option Value} {base : Heap} {f : Addr} {fd : FuncData}
abbrev s__law_carried : Stmt := top 68
theorem sc__law_carried : FnScope ["_law_rows", "_law_found", "_law_counts_now", "_law_both", "_law_key", "_law_spot"] ["_law_rows", "_law_found", "_law_counts_now"] (defScope s__law_carried) := ⟨rfl, rfl, rfl, by decide +kernel, rfl, by decide +kernel, by decide +kernel⟩
def sp__law_carried (P : Program) (w : World) : Sp := fun vs H Q _ => ∃ (r d a : Addr) (n : Nat) (R : List Place) (es : WE) (p : Place), vs = [.ref r, .ref d, .ref a] ∧ LsE ecP H r R ∧ RowsOk n R ∧ PosR R ∧ FN P w kcS H d es ∧ (es.map (·.1)).Nodup ∧ (∀ e ∈ es, e.1.1.length = n) ∧ es.length < sizeLine ∧ IT H a p ∧ p.length = n ∧
  (R ≠ [] → ∀ e ∈ es, Bp (addP e.1.1 p)) ∧ ∀ H' b, Same H H' → FN P w kcS H' b (lwOf R (es.map (shE p))) → Q (.ref b) H'
theorem c__law_carried {fN fA : Addr} {fdN fdA : FuncData} (F : FnP K "_law_carried" "_law_carried" s__law_carried f fd) (B : Fre mg) (cN : Cal P w K mg base 2 ["_law_rows", "_law_counts_now"] sp__law_named fN fdN) (gN : mg "_law_named" = some (.ref fN))
    (cA : Cal P w K mg base 1 ["_law_one", "_law_other"] (sp_zip fun x y => x + y) fA fdA) (gA : mg "_law_add" = some (.ref fA)) : Cal P w K mg base 3 ["_law_rows", "_law_found", "_law_counts_now"] (sp__law_carried P w) f fd := by
  refine F.cal (F.ok sc__law_carried (fun vs H Q E h => ?_) (fun cdv A outer s H vs Q E hr h => ?_)) (fun _ _ _ _ _ _ us hl => match us, hl with | [_, _, _], _ => rfl)
  · obtain ⟨r, d, a, n, R, es, p, rfl, _⟩ := h
    rfl
  · obtain ⟨r, d, a, n, R, es, p, rfl, hrr, hR, hP, hdd, hnde, hle, hz, ha, hp, hB, q⟩ := h
    have nd := sc__law_carried.nd
    refine ⟨_, PSs.nox (pss_cons (ps_set (i := 3) nd rfl (.inr rfl) (pe_nnew (c := kcS))) (pss_cons (ps_for PassesOwn.never rfl (pi_nkeys (c := kcS) (pv 1)) (pg_name (i := 4) nd rfl (.inl rfl)) (pss_cons (ps_set (i := 5) nd rfl (.inl rfl) (pe_tup (pa_cons (pe_cal cN (hr.mono (by decide)) rfl gN (pa_cons (pv 0) (pa_cons (pe_cal cA (hr.mono (by decide)) rfl gA (pa_cons (pe_ix ix_tup (pv 4) pe_int (fun _ _ => rfl)) (pa_cons (pv 2) pa_nil))) pa_nil))) (pa_cons (pe_ix ix_tup (pv 4) pe_int (fun _ _ => rfl)) pa_nil)))) (pss_one (ps_nput (c := kcS) hr.units (pv 3) (pv 5) (pe_op op_add (pe_nget2 (c := kcS) hr.units (pv 3) (pv 5) pe_int ⟨rfl, rfl, rfl, rfl⟩) (pe_nget (c := kcS) hr.units (pv 1) (pv 4) (fun _ _ => rfl))) rfl)))) (pss_frz (pss_one (ps_ret (pe_frz (pe_callTy (call_dictN (c := kcS) ⟨_, hr⟩ rfl) (by rfl) B.dict (by decide +kernel) (pa_cons (pe_lc (own := [("_law_key", 4)]) (g := gName 4) (te := tTup (tCons (tVar 4) (tCons (tNGet P w kcS (tVar 3) (tVar 4)) tNil))) (tt := tTest (tOp rNe (tNGet P w kcS (tVar 3) (tVar 4)) (tC (.int 0)))) rfl nd (pi_nkeys (c := kcS) (pv 3)) (blkOk_by (N := ["_law_rows", "_law_found", "_law_counts_now", "_law_both", "_law_key", "_law_spot"]) (sc := defScope s__law_carried) (by decide +kernel)) (fun _ _ _ _ _ => (pg_name (i := 4) nd rfl (.inl rfl))) (fun _ _ _ _ _ => (pts_one (pt_cmpR op_ne (pe_nget (c := kcS) hr.units (pv 3) (pv 4) (fun _ _ => rfl)) pe_int (nomark _)))) (fun _ _ _ _ _ => (pe_tup (pa_cons (pv 4) (pa_cons (pe_nget (c := kcS) hr.units (pv 3) (pv 4) (fun _ _ => rfl)) pa_nil))))) pa_nil)))))))), ?_⟩
    have h100 : (100 : Nat) ≤ sizeLine := by decide
    have hn3 := hR.le
    obtain ⟨od, hdo⟩ := hdd.o
    refine fun fo o nf hd0 no => ?_
    have s1 : Same H (upd H fo o) := same_new nf
    generalize upd H fo o = H2 at hd0 s1 ⊢
    have hdo2 := hdo.same s1
    refine ⟨_, rfl, d, od, es, rfl, hdo2, ?_⟩
    refine for_it walk_nkeys (fun i σ H3 => ∃ (y4 y5 : Option V), σ = [some (.ref r), some (.ref d), some (.ref a), some (.ref fo), y4, y5] ∧ SameX fo H2 H3 ∧ DN P w kcS H3 fo (putW R ((es.take i).map (shE p))))
      ⟨_, _, rfl, SameX.refl _ _, hd0⟩ (fun i σ H3 _ ⟨_, _, _, sx, _⟩ => hdo2.stx hd0 sx) (fun i x σ H3 H' hi pv y => ?_) (fun σ H3 pv => ?_)
    · obtain ⟨y4, y5, rfl, sx, hd⟩ := pv
      obtain ⟨rfl, k, m, ka, he, rfl, qa, hqa, hka⟩ := y
      have hdo3 := (hdo2.stx hd0 sx).f.rd
      have smH : Same H H' := fun b u hb => by
        have hbf : b ≠ fo := ne_of_none hb nf
        exact sx b u hbf (s1 b u hb)
      have hem := List.mem_of_getElem? he
      have hkl := hle _ hem
      have hsnoc : (es.take (i + 1)).map (shE p) = (es.take i).map (shE p) ++ [shE p (k, m)] := by rw [take_snoc he, List.map_append]; rfl
      have htl : ((es.take i).map (shE p)).length ≤ es.length := by rw [List.length_map, List.length_take]; omega
      have hpl := putW_len R ((es.take i).map (shE p))
      obtain ⟨kp, ki⟩ := k
      have hkl : kp.length = n := hkl
      have hBk : R ≠ [] → Bp (addP kp p) := fun z => hB z _ hem
      generalize (es.take i).map (shE p) = pre at hd hsnoc htl hpl
      refine ⟨_, rfl, _, rfl, ka, _, _, _, rfl, rfl, .of hka, atI_nat (j := 0) rfl, _, rfl, qa, a, kp, p, rfl, hqa, smH _ _ ha, by omega, fun H4 c3 sm4 hc3 => ?_⟩
      refine ⟨r, c3, n, R, addP kp p, rfl, hrr.same (smH.trans sm4), hR, hP, hc3, by rw [addP_len _ _ (by omega)]; exact hkl, hBk, fun H5 c4 sm5 hc4 => ?_⟩
      have hka5 := sm5 _ _ (sm4 _ _ hka)
      refine ⟨_, rfl, ka, _, _, _, rfl, rfl, .of hka5, atI_nat (j := 1) rfl, by show 2 ≤ sizeLine; omega, fun t nt => ?_⟩
      have st : Same H5 (upd H5 t (.tup [.ref c4, .int (ki : Int)])) := same_new nt
      have hkey : kcS.at_ (upd H5 t (.tup [.ref c4, .int (ki : Int)])) t (redR R (addP kp p), ki) := ⟨c4, st _ _ hc4, upd_same⟩
      have sm6 := sm4.trans (sm5.trans st)
      generalize upd H5 t (.tup [.ref c4, .int (ki : Int)]) = H6 at st hkey sm6 ⊢
      have hd6 := hd.same sm6
      have hka6 : kcS.at_ H6 ka (kp, ki) := ⟨qa, sm6 _ _ hqa, sm6 _ _ hka⟩
      have hdo6 := ((hdo2.stx hd0 sx).same sm6).f.rd
      have hg := getE_of hnde hem
      refine ⟨_, rfl, fo, rfl, ⟨_, hd6.rd⟩, _, rfl, t, _, _, 0, rfl, hkey, hd6.rd, rfl, _, rfl, _, rfl, d, ka, (kp, ki), es, m, rfl, rfl, hka6, hdo6, hg, _, _, rfl, rfl, _, rfl, _, rfl, fo, t, _, _, _, rfl, rfl, rfl, hkey, hd6, by omega, fun o2 hd7 => ?_⟩
      refine ⟨_, _, rfl, (sx.trans (Same.x sm6)).trans sameX_upd, ?_⟩
      rw [hsnoc, putW_snoc]
      exact hd7
    · obtain ⟨y4, y5, rfl, sx, hd⟩ := pv
      rw [List.take_length] at hd
      have hlen := putW_len R (es.map (shE p))
      rw [List.length_map] at hlen
      have hnd := nodup_putW R (es.map (shE p))
      unfold lwOf at q
      clear hdd hnde hle hB hdo hdo2
      generalize putW R (es.map (shE p)) = es2 at hd q hlen hnd
      obtain ⟨kvs, ek, hek⟩ := _root_.id hd
      refine ⟨fo, _, ek, True.intro, fun od2 => ?_⟩
      have t6 : SameX fo H3 (upd H3 fo (.frz od2 (hoN P w fo kvs))) := sameX_upd
      have hf : FNo P w kcS (upd H3 fo (.frz od2 (hoN P w fo kvs))) fo od2 es2 := ⟨kvs, upd_same, hek.keep (hd.stx t6)⟩
      have s6 : Same H (upd H3 fo (.frz od2 (hoN P w fo kvs))) := fun b u hb => by
        have hbf : b ≠ fo := ne_of_none hb nf
        exact (sx.trans t6) b u hbf (s1 b u hb)
      generalize upd H3 fo (.frz od2 (hoN P w fo kvs)) = H6 at hf s6 ⊢
      refine ⟨_, rfl, fo, od2, _, rfl, hf, fun D nD => ?_⟩
      refine lc_it walk_nkeys (fun i H7 => Same H6 H7 ∧ ∃ vs, H7 D = some (.lst vs) ∧ PairsAt kcS H7 vs ((es2.take i).filter fun e => e.2 != 0)) ⟨same_new nD, [], upd_same, .nil⟩ (fun i H7 _ ⟨sm, _⟩ => hf.same sm) (fun i y H7 H8 hi pv yy => ?_) (fun H7 pv => ?_)
      · obtain ⟨sm, vs, e7, p7⟩ := pv
        obtain ⟨rfl, k, n, a1, he2, rfl, hk⟩ := yy
        have hf7 := (hf.same sm).f.rd
        have hg := getE_of hnd (List.mem_of_getElem? he2)
        have htf := take_filter (fun e : (Place × Nat) × Int => e.2 != 0) he2
        refine ⟨rfl, _, rfl, _, rfl, fo, a1, k, es2, n, rfl, rfl, hk, hf7, hg, rfl, _, rfl, ?_⟩
        by_cases e0 : n = 0
        · refine iteN (neZ_no e0) ⟨sm, vs, e7, ?_⟩
          rw [htf, e0]
          simpa using p7
        · refine iteY (neZ_yes e0) ⟨_, rfl, _, rfl, _, rfl, fo, a1, k, es2, n, rfl, rfl, hk, hf7, hg, by show 2 ≤ sizeLine; omega, fun t nt => ?_⟩
          have st : Same H8 (upd H8 t (.tup [.ref a1, .int n])) := same_new nt
          have hvl : vs.length ≤ es2.length := by
            rw [Paired.length p7]
            exact Nat.le_trans (List.length_filter_le _ _) (by rw [List.length_take]; omega)
          refine ⟨vs, st _ _ e7, by omega, same_over (sm.trans st) nD, _, upd_same, ?_⟩
          rw [htf, if_pos (by simpa using e0)]
          exact pairs_upd (Paired.snoc (pairs_keep p7 st) ⟨t, a1, rfl, upd_same, kcS.keep (Same.tups st) hk⟩) (st _ _ e7)
      · obtain ⟨sm, vs, e7, p7⟩ := pv
        rw [List.take_length] at p7
        refine ⟨D, vs, _, rfl, .of e7, p7, fun p o np no hdn => ?_⟩
        obtain ⟨u, hu, hm, hfr⟩ := hdn.frz
        refine ⟨p, u, hu, hm, fun od => ?_⟩
        exact q _ p (same_over ((s6.trans sm).trans (same_new np)) (Same.free (s6.trans sm) np)) (hfr od)
/-! _law_free_walk -/
abbrev s__law_free_walk : Stmt := top 69
theorem sc__law_free_walk : FnScope ["_law_one", "_law_letters_here", "_law_begin_here"] ["_law_one", "_law_letters_here", "_law_begin_here"] (defScope s__law_free_walk) := ⟨rfl, rfl, rfl, by decide +kernel, rfl, by decide +kernel, by decide +kernel⟩
def sp__law_free_walk (P : Program) (w : World) : Sp := fun vs H Q _ => ∃ (a : Addr) (L : List Nat) (v : Wd) (p : Place), vs = [.str (wd L v), .str (lt L), .ref a] ∧ LG L ∧ WF L.length v ∧ v.length < sizeLine ∧ IT H a p ∧ p.length = L.length ∧
  ∀ H' d, Same H H' → FN P w kcS H' d (lwOf [] (streetsOf p v)) → Q (.ref d) H'
theorem c__law_free_walk {fN : Addr} {fdN : FuncData} (F : FnP K "_law_free_walk" "_law_free_walk" s__law_free_walk f fd) (cN : Cal P w K mg base 3 ["_law_rows", "_law_one", "_law_letters_here", "_law_begin_here"] (sp__law_walk_of P w) fN fdN) (gN : mg "_law_walk_of" = some (.ref fN)) :
    Cal P w K mg base 4 ["_law_one", "_law_letters_here", "_law_begin_here"] (sp__law_free_walk P w) f fd := by
  refine F.cal (F.ok sc__law_free_walk (fun vs H Q E h => ?_) (fun cdv A outer s H vs Q E hr h => ?_)) (fun _ _ _ _ _ _ us hl => match us, hl with | [_, _, _], _ => rfl)
  · obtain ⟨a, L, v, p, rfl, _⟩ := h
    rfl
  · obtain ⟨a, L, v, p, rfl, lg, hv, hz, ha, hp, q⟩ := h
    have nd := sc__law_free_walk.nd
    refine ⟨_, PSs.nox (pss_one (ps_ret (pe_cal cN (hr.mono (by decide)) rfl gN (pa_cons (pe_lst pa_nil) (pa_cons (pv 0) (pa_cons (pv 1) (pa_cons (pv 2) pa_nil))))))), ?_⟩
    refine ⟨Nat.zero_le _, fun l nl => ⟨_, rfl, _, rfl, _, rfl, l, a, L, v, [], p, rfl, lg, hv, hz, ⟨[], upd_same, .nil⟩, ⟨by decide, (fun r hr => nomatch hr), lg.pos, lg.le⟩, (fun r hr => nomatch hr), (same_new nl) _ _ ha, hp, (fun z => absurd rfl z), fun H' d sm hd => q _ d ((same_new nl).trans sm) hd⟩⟩
/-! _law_turns -/
abbrev s__law_turns : Stmt := top 70
theorem sc__law_turns : FnScope ["_law_letters_here", "_law_word_now", "_law_one", "_law_other", "_law_whole", "_law_zero"] ["_law_letters_here", "_law_word_now", "_law_one", "_law_other"] (defScope s__law_turns) := ⟨rfl, rfl, rfl, by decide +kernel, rfl, by decide +kernel, by decide +kernel⟩
def sp__law_turns : Sp := fun vs H Q _ => ∃ (L : List Nat) (t u v : Wd), vs = [.str (lt L), .str (wd L t), .str (wd L u), .str (wd L v)] ∧ LG L ∧ WF L.length t ∧ WF L.length u ∧ WF L.length v ∧ t.length + u.length + t.length < sizeLine ∧ v.length < sizeLine ∧
  ∀ H', Same H H' → Q (.bl (turnsM L.length t u v)) H'
theorem wf_app {n : Nat} {t u : Wd} (h : WF n t) (h2 : WF n u) : WF n (t ++ u) := fun g hg => (List.mem_append.mp hg).elim (h g) (h2 g)
theorem c__law_turns {fW fG : Addr} {fdW fdG : FuncData} (F : FnP K "_law_turns" "_law_turns" s__law_turns f fd) (B : Fre mg) (cW : Cal P w K mg base 4 ["_law_one", "_law_letters_here", "_law_begin_here"] (sp__law_free_walk P w) fW fdW) (gW : mg "_law_free_walk" = some (.ref fW))
    (cG : Cal P w K mg base 2 ["_law_one"] sp_opposite fG fdG) (gG : mg "_law_gone_back" = some (.ref fG)) : Cal P w K mg base 5 ["_law_letters_here", "_law_word_now", "_law_one", "_law_other"] sp__law_turns f fd := by
  refine F.cal (F.ok sc__law_turns (fun vs H Q E h => ?_) (fun cdv A outer s H vs Q E hr h => ?_)) (fun _ _ _ _ _ _ us hl => match us, hl with | [_, _, _, _], _ => rfl)
  · obtain ⟨L, t, u, v, rfl, _⟩ := h
    rfl
  · obtain ⟨L, t, u, v, rfl, lg, ht, hu, hv, hz, hz2, q⟩ := h
    have nd := sc__law_turns.nd
    refine ⟨_, PSs.nox (pss_cons (ps_par (i := 4) (j := 5) rfl nd rfl rfl (by decide) rfl rfl (pa_cons (pe_op op_add_str (pe_op op_add_str (pv 1) (pv 2)) (pe_cal cG (hr.mono (by decide)) rfl gG (pa_cons (pv 1) pa_nil))) (pa_cons (pe_op op_repZ (pe_tup (pa_cons pe_int pa_nil)) (pe_callB call_len_str (by rfl) B.len PySem.boot_len (pa_cons (pv 0) pa_nil))) pa_nil)) (by rfl)) (pss_one (ps_ret (pe_cmpR (op_eqN (c := kcS) hr.units) (pe_cal cW (hr.mono (by decide)) rfl gW (pa_cons (pv 4) (pa_cons (pv 0) (pa_cons (pv 5) pa_nil)))) (pe_cal cW (hr.mono (by decide)) rfl gW (pa_cons (pv 3) (pa_cons (pv 0) (pa_cons (pv 5) pa_nil)))) (nomark _))))), ?_⟩
    have h100 : (100 : Nat) ≤ sizeLine := by decide
    have hn1 := lg.pos
    have hn3 := lg.le
    have hltl : (lt L).length = L.length := lt_size L
    refine ⟨_, rfl, _, rfl, _, _, rfl, rfl, by rw [wd_len, wd_len]; omega, ?_⟩
    refine ⟨_, rfl, L, t, lg, ht, by omega, rfl, fun H1 sm1 => ?_⟩
    refine ⟨_, _, rfl, rfl, by rw [Str.length_append, wd_len, wd_len, wd_len, inv_len]; omega, ?_⟩
    rw [wd_app, wd_app]
    refine ⟨by show 1 ≤ sizeLine; omega, fun t0 n0 => ?_⟩
    refine ⟨_, rfl, _, rfl, by rw [hltl]; omega, t0, _, _, rfl, rfl, upd_same, by simp, by rw [hltl]; omega, by rw [hltl]; omega, by show 1 ≤ 1000; decide, fun z H2 sm2 hz0 => ?_⟩
    rw [hltl, Int.toNat_natCast, rep_zero] at hz0
    have s2 := sm1.trans ((same_new n0).trans sm2)
    refine ⟨_, _, rfl, ?_⟩
    refine ⟨_, rfl, _, rfl, _, rfl, z, L, t ++ u ++ inv t, zeroP L.length, rfl, lg, wf_app (wf_app ht hu) (inv_wf ht), by simp [inv_len]; omega, hz0, zeroP_len _, fun H3 d1 sm3 hd1 => ?_⟩
    refine ⟨_, rfl, _, rfl, _, rfl, z, L, v, zeroP L.length, rfl, lg, hv, hz2, sm3 _ _ hz0, zeroP_len _, fun H4 d2 sm4 hd2 => ?_⟩
    exact ⟨d1, d2, _, _, rfl, rfl, (hd1.same sm4).rd, hd2.rd, q _ (s2.trans (sm3.trans sm4))⟩
end
end K35
/-! text D26 -/
set_option Elab.async false
set_option linter.all false
set_option maxRecDepth 100000
set_option maxHeartbeats 4000000
/-! the law's words, 2 -/
namespace K35
open PySem PySem.Spec PyProof.Rows L2
section
variable {P : Program} {w : World} {K : PySem.W.Frag} {mg : Str → Option Value} {base : Heap} {f : Addr} {fd : FuncData}
abbrev s__law_all_words : Stmt := top 71
theorem sc__law_all_words : FnScope ["_law_letters_here", "_law_most", "_law_found", "_law_last", "_law_k", "_law_more", "_law_one", "_law_sign"] ["_law_letters_here", "_law_most"] (defScope s__law_all_words) := ⟨rfl, rfl, rfl, by decide +kernel, rfl, by decide +kernel, by decide +kernel⟩
def WsOk (n m : Nat) (ws : List Wd) : Prop := ∀ v ∈ ws, WF n v ∧ v.length ≤ m
def sp__law_all_words : Sp := fun vs H Q _ => ∃ (L : List Nat) (m : Nat), vs = [.str (lt L), .int (m : Int)] ∧ LG L ∧ m ≤ 4 ∧ ∀ H' b (ws : List Wd), Same H H' → WsOk L.length m ws → ws.length ≤ 10000 → LsE ecStr H' b (ws.map (wd L)) → Q (.ref b) H'
theorem WsOk.app {n m : Nat} {a b : List Wd} (h1 : WsOk n m a) (h2 : WsOk n m b) : WsOk n m (a ++ b) := fun v hv => (List.mem_append.mp hv).elim (h1 v) (h2 v)
theorem lsE_strs {H : Hp} {a : Addr} {l : List Str} (h : H a = some (.lst (l.map V.str))) : LsE ecStr H a l := ⟨_, h, all_str _ _⟩
theorem c__law_all_words {fS : Addr} {fdS : FuncData} (F : FnP K "_law_all_words" "_law_all_words" s__law_all_words f fd) (B : Fre mg) (cS : Cal P w K mg base 1 ["_law_letters_here"] sp__law_signs fS fdS) (gS : mg "_law_signs" = some (.ref fS)) : Cal P w K mg base 2 ["_law_letters_here", "_law_most"] sp__law_all_words f fd := by
  refine F.cal (F.ok sc__law_all_words (fun vs H Q E h => ?_) (fun cdv A outer s H vs Q E hr h => ?_)) (fun _ _ _ _ _ _ us hl => match us, hl with | [_, _], _ => rfl)
  · obtain ⟨L, m, rfl, _⟩ := h
    rfl
  · obtain ⟨L, m, rfl, lg, hm, q⟩ := h
    have nd := sc__law_all_words.nd
    refine ⟨_, PSs.nox (pss_cons (ps_par (i := 2) (j := 3) rfl nd rfl rfl (by decide) rfl rfl (pa_cons (pe_lst (pa_cons pe_str pa_nil)) (pa_cons (pe_lst (pa_cons pe_str pa_nil)) pa_nil)) (by rfl)) (pss_cons (ps_for PassesOwn.never rfl (pi_range1 rfl B.range (pa_cons (pv 1) pa_nil)) (pg_name (i := 4) nd rfl (.inl rfl)) (pss_cons (ps_set (i := 5) nd rfl (.inl rfl) (pe_lst pa_nil)) (pss_cons (ps_for PassesOwn.never rfl (pi_list (pv 3)) (pg_name (i := 6) nd rfl (.inr rfl)) (pss_one (ps_set (i := 5) nd rfl (.inl rfl) (pe_op op_cat (pv 5) (pe_lc (own := [("_law_sign", 7)]) (g := gName 7) (tt := tYes) rfl nd (pi_str (pe_cal cS (hr.mono (by decide)) rfl gS (pa_cons (pv 0) pa_nil))) (blkOk_by (N := ["_law_letters_here", "_law_most", "_law_found", "_law_last", "_law_k", "_law_more", "_law_one", "_law_sign"]) (sc := defScope s__law_all_words) (by decide +kernel)) (fun _ _ _ _ _ => (pg_name (i := 7) nd rfl (.inl rfl))) (fun _ _ _ _ _ => pts_nil) (fun _ _ _ _ _ => (pe_op op_add_str (pv 6) (pv 7)))))))) (pss_one (ps_par (i := 2) (j := 3) rfl nd rfl rfl (by decide) rfl rfl (pa_cons (pe_op op_cat (pv 2) (pv 5)) (pa_cons (pv 5) pa_nil)) (by rfl)))))) (pss_one (ps_ret (pv 2))))), ?_⟩
    have h100 : (100000 : Nat) ≤ sizeLine := by decide
    have hn3 := lg.le
    have hal := allSg_len L.length
    refine ⟨by show 1 ≤ sizeLine; omega, fun l1 n1 => ⟨by show 1 ≤ sizeLine; omega, fun l2 n2 => ⟨_, _, rfl, ?_⟩⟩⟩
    have e0 : Str.ofString "" = wd L [] := rfl
    have s1 : Same H (upd H l1 (.lst [.str (Str.ofString "")])) := same_new n1
    have h1 := upd_same (H := H) (a := l1) (o := .lst [.str (Str.ofString "")])
    generalize upd H l1 (.lst [.str (Str.ofString "")]) = H1 at s1 h1 n2 ⊢
    have s2 : Same H1 (upd H1 l2 (.lst [.str (Str.ofString "")])) := same_new n2
    have h2 := upd_same (H := H1) (a := l2) (o := .lst [.str (Str.ofString "")])
    have h12 := s2 _ _ h1
    have s12 := s1.trans s2
    generalize upd H1 l2 (.lst [.str (Str.ofString "")]) = H2 at s12 h2 h12 ⊢
    refine ⟨_, rfl, _, rfl, by omega, by omega, ?_⟩
    rw [Int.toNat_natCast]
    refine for_it walk_range (fun i σ H3 => ∃ (la lb : Addr) (y4 y5 y6 y7 : Option V) (fs ls : List Wd), σ = [some (.str (lt L)), some (.int (m : Int)), some (.ref la), some (.ref lb), y4, y5, y6, y7] ∧ Same H2 H3 ∧ H3 la = some (.lst ((fs.map (wd L)).map V.str)) ∧ H3 lb = some (.lst ((ls.map (wd L)).map V.str)) ∧
        WsOk L.length i fs ∧ WsOk L.length i ls ∧ ls.length ≤ 6 ^ i ∧ fs.length ≤ (i + 1) * 1296)
      ⟨l1, l2, _, _, _, _, [[]], [[]], rfl, Same.refl _, h12, h2, ?_, ?_, by decide, by decide⟩ (fun _ _ _ _ _ => trivial) (fun i x σ H3 H' hi pv y => ?_) (fun σ H3 pv => ?_)
    · intro v hv
      rw [List.mem_singleton.mp hv]
      exact ⟨(fun g hg => nomatch hg), Nat.zero_le _⟩
    · intro v hv
      rw [List.mem_singleton.mp hv]
      exact ⟨(fun g hg => nomatch hg), Nat.zero_le _⟩
    · obtain ⟨la, lb, y4, y5, y6, y7, fs, ls, rfl, sm, hla, hlb, wf, wl, nl, nf⟩ := pv
      obtain ⟨rfl, rfl⟩ := y
      have h6 : 6 ^ (i + 1) ≤ 1296 := Nat.le_trans (Nat.pow_le_pow_right (by decide) (show i + 1 ≤ 4 by omega)) (by decide)
      have hls1 : ls.length ≤ 1296 := Nat.le_trans nl (Nat.le_trans (Nat.pow_le_pow_right (by decide) (by omega)) h6)
      refine ⟨Nat.zero_le _, fun l3 n3 => ?_⟩
      have s3 : Same H' (upd H' l3 (.lst [])) := same_new n3
      have h3 := upd_same (H := H') (a := l3) (o := .lst [])
      have hla3 := s3 _ _ hla
      have hlb3 := s3 _ _ hlb
      have sm3 := sm.trans s3
      generalize upd H' l3 (.lst []) = H4 at sm3 h3 hla3 hlb3 ⊢
      refine ⟨_, rfl, lb, rfl, ⟨_, .of hlb3⟩, ?_⟩
      refine for_it walk_list (fun j σ H5 => ∃ (mo : Addr) (y6 y7 : Option V) (ms : List Wd), σ = [some (.str (lt L)), some (.int (m : Int)), some (.ref la), some (.ref lb), some (.int (0 + (i : Nat))), some (.ref mo), y6, y7] ∧ Same H4 H5 ∧ H5 mo = some (.lst ((ms.map (wd L)).map V.str)) ∧ WsOk L.length (i + 1) ms ∧ ms.length ≤ j * 6)
        ⟨l3, _, _, [], rfl, Same.refl _, h3, (fun v hv => nomatch hv), by simp⟩ (fun j σ H5 _ ⟨_, _, _, _, _, sm, _⟩ => .of (sm _ _ hlb3)) (fun j x σ H5 H6 hj pv y => ?_) (fun σ H5 pv => ?_)
      · obtain ⟨mo, y6, y7, ms, rfl, sm5, hmo, wm, nm⟩ := pv
        obtain ⟨rfl, e⟩ := y
        have hj' : j < ls.length := by simpa using hj
        rw [List.getElem?_map, List.getElem?_map, List.getElem?_eq_getElem hj'] at e
        have e := (Option.some.inj e).symm
        subst e
        obtain ⟨w1, w2⟩ := wl _ (List.getElem_mem hj')
        generalize ls[j] = v1 at w1 w2 ⊢
        refine ⟨_, rfl, _, rfl, L, lg, rfl, fun H7 sm7 => ⟨_, rfl, fun D nD => ?_⟩⟩
        refine lc_gen walk_wd ecStr (allSg L.length) (fun g => some (wd L (v1 ++ [g]))) nD rfl (by omega) (fun _ _ => trivial) (fun k y H8 H9 g hg sm8 yy N1 N0 k1 k0 => ?_) (fun H8 sm8 hl8 => ?_)
        · obtain ⟨rfl, g', hg', rfl⟩ := yy
          obtain rfl : g' = g := Option.some.inj (hg'.symm.trans hg)
          refine ⟨rfl, _, rfl, _, rfl, _, _, rfl, rfl, by rw [wd_len, wd_len]; show v1.length + 1 ≤ _; omega, ?_⟩
          rw [wd_app]
          exact k1 _ _ _ rfl rfl (Same.refl _)
        · rw [fm_some] at hl8
          have hD := hl8.strs
          have em : (List.map (fun g => wd L (v1 ++ [g])) (allSg L.length)) = ((allSg L.length).map fun g => v1 ++ [g]).map (wd L) := by rw [List.map_map]; rfl
          rw [em] at hD
          have hmo8 := sm8 _ _ (sm7 _ _ hmo)
          have hj6 : j * 6 ≤ 1296 * 6 := Nat.mul_le_mul_right _ (by omega)
          refine ⟨mo, D, _, _, rfl, rfl, hmo8, hD, by simp [hal]; omega, fun l9 n9 => ?_⟩
          refine ⟨l9, _, _, ms ++ (allSg L.length).map fun g => v1 ++ [g], rfl, (sm5.trans (sm7.trans sm8)).trans (same_new n9), ?_, ?_, ?_⟩
          · rw [upd_same, List.map_append, List.map_append]
          · refine wm.app fun v hv => ?_
            obtain ⟨g, hg, rfl⟩ := List.mem_map.mp hv
            refine ⟨wf_app w1 fun k hk => ?_, by simp; omega⟩
            rw [List.mem_singleton.mp hk]
            exact mem_allSg hg
          · simp [hal]
            omega
      · obtain ⟨mo, y6, y7, ms, rfl, sm5, hmo, wm, nm⟩ := pv
        simp only [List.length_map] at nm
        have nm6 : ms.length ≤ 6 ^ (i + 1) := by
          rw [Nat.pow_succ]
          exact Nat.le_trans nm (Nat.mul_le_mul_right _ nl)
        have hla5 := sm5 _ _ hla3
        have hff : (i + 1) * 1296 ≤ 5 * 1296 := Nat.mul_le_mul_right _ (by omega)
        have hff2 : (i + 1 + 1) * 1296 = (i + 1) * 1296 + 1296 := by rw [Nat.succ_mul]
        refine ⟨_, rfl, _, rfl, la, mo, _, _, rfl, rfl, hla5, hmo, by simp; omega, fun l9 n9 => ⟨_, rfl, _, _, rfl, ?_⟩⟩
        have s9 : Same H5 (upd H5 l9 (.lst ((fs.map (wd L)).map V.str ++ (ms.map (wd L)).map V.str))) := same_new n9
        refine ⟨l9, mo, _, _, _, _, fs ++ ms, ms, rfl, (sm3.trans sm5).trans s9, ?_, s9 _ _ hmo, ?_, wm, nm6, by rw [List.length_append]; omega⟩
        · rw [upd_same, List.map_append, List.map_append]
        · exact WsOk.app (fun v hv => ⟨(wf v hv).1, Nat.le_succ_of_le (wf v hv).2⟩) wm
    · obtain ⟨la, lb, y4, y5, y6, y7, fs, ls, rfl, sm, hla, hlb, wf, wl, nl, nf⟩ := pv
      have hmm : (m + 1) * 1296 ≤ 5 * 1296 := Nat.mul_le_mul_right _ (by omega)
      exact ⟨_, rfl, q _ la fs (s12.trans sm) wf (by omega) (lsE_strs hla)⟩
end
end K35
/-! text D27 -/
set_option Elab.async false
set_option linter.all false
set_option maxRecDepth 100000
set_option maxHeartbeats 4000000
/-! the law -/
namespace K35
open PySem PySem.Spec PyProof.Rows L2
def lawW (n : Nat) (R : List Place) (u : Wd) : WE := lwOf R (streetsOf (zeroP n) u)
/-- what the law asks of plain words -/
structure PlainLaw (n : Nat) (u v : Wd) : Prop where
  ok : TurnerOk n u v
  wf : ∀ t, turnerM n u v = some t → WF n t ∧ t.length ≤ 8000000
  A : turnerM n u v = none → ∀ t, WF n t → turnsM n t u v = false
  B : ∀ t, turnerM n u v = some t → turnsM n t u v = true
  C : turnerM n u v = none → counts n u = counts n v → (∀ k ∈ lawW n (nrmR (counts n u)) u, ∀ g ∈ lawW n (nrmR (counts n u)) v, eqE (lwOf (nrmR (counts n u)) ((lawW n (nrmR (counts n u)) u).map (shE (subP g.1.1 k.1.1)))) (lawW n (nrmR (counts n u)) v) = false) ∧ eqE (lawW n (nrmR (counts n u)) u) (lawW n (nrmR (counts n u)) v) = false
  rows : RowsOk n (nrmR (counts n u)) ∧ PosR (nrmR (counts n u))
  len : ∀ k, k ∈ lawW n (nrmR (counts n u)) u ∨ k ∈ lawW n (nrmR (counts n u)) v → k.1.1.length = n
  bd : ∀ s, s ∈ streetsOf (zeroP n) u ∨ s ∈ streetsOf (zeroP n) v → Bp s.1
  bc : ∀ e ∈ lawW n (nrmR (counts n u)) u, ∀ k ∈ lawW n (nrmR (counts n u)) u, ∀ g ∈ lawW n (nrmR (counts n u)) v, Bp (addP e.1.1 (subP g.1.1 k.1.1))
def PlainAll : Prop := ∀ (n : Nat) (u v : Wd), 1 ≤ n → n ≤ 3 → WF n u → WF n v → u.length ≤ 6 → v.length ≤ 8 → (counts n u = counts n v → counts n u = zeroP n ∨ (u.length ≤ 5 ∧ v.length ≤ 5)) → PlainLaw n u v
theorem perm_map_inv {α β : Type} {f : α → β} {ys zs : List β} (h : ys.Perm zs) : ∀ l : List α, zs = l.map f → ∃ l' : List α, ys = l'.map f ∧ l'.Perm l := by
  induction h with
  | nil => exact fun l e => ⟨[], rfl, by cases l with | nil => exact .nil | cons => cases e⟩
  | cons x _ ih =>
    intro l e
    cases l with
    | nil => cases e
    | cons a l =>
      rw [List.map_cons] at e
      injection e with e1 e2
      obtain ⟨l', h1, h2⟩ := ih l e2
      exact ⟨a :: l', by rw [List.map_cons, e1, h1], h2.cons a⟩
  | swap x y l0 =>
    intro l e
    match l, e with
    | a :: b :: l, e =>
      rw [List.map_cons, List.map_cons] at e
      injection e with e1 e
      injection e with e2 e
      exact ⟨b :: a :: l, by rw [List.map_cons, List.map_cons, e1, e2, e], List.Perm.swap a b l⟩
  | trans _ _ ih1 ih2 =>
    intro l e
    obtain ⟨l2, h1, h2⟩ := ih2 l e
    obtain ⟨l3, h3, h4⟩ := ih1 l2 h1
    exact ⟨l3, h3, h4.trans h2⟩
def letW (n : Nat) : Wd := (List.range n).map fun i => (i, true)
theorem lt_letW (L : List Nat) : lt L = wd L (letW L.length) := str_ext (by
  show L = ((letW L.length).map (cd L))
  unfold letW
  rw [List.map_map]
  refine List.ext_getElem? fun i => ?_
  rw [List.getElem?_map]
  by_cases hi : i < L.length
  · rw [List.getElem?_range hi, List.getElem?_eq_getElem hi]
    simp [cd, List.getD_eq_getElem?_getD, List.getElem?_eq_getElem hi]
  · rw [List.getElem?_eq_none (by omega), List.getElem?_eq_none (by simpa using hi)]
    rfl)
theorem letW_wf (n : Nat) : WF n (letW n) := fun g hg => by
  obtain ⟨i, hi, rfl⟩ := List.mem_map.mp hg
  exact List.mem_range.mp hi
theorem letW_counts {n : Nat} (hn : 1 ≤ n) (u : Wd) : counts n u ≠ counts n (u ++ letW n) := by
  intro e
  have h := congrArg (fun p : Place => p[0]?) e
  obtain ⟨m, rfl⟩ : ∃ m, n = m + 1 := ⟨n - 1, by omega⟩
  have h1 : (letW (m + 1)).count (0, true) = 1 := by
    unfold letW
    rw [List.range_succ_eq_map, List.map_cons, List.count_cons_self, List.count_eq_zero.mpr]
    intro hm
    obtain ⟨i, hi, e⟩ := List.mem_map.mp hm
    obtain ⟨j, _, rfl⟩ := List.mem_map.mp hi
    cases e
  have h2 : (letW (m + 1)).count (0, false) = 0 := by
    rw [List.count_eq_zero]
    intro hm
    obtain ⟨i, hi, e⟩ := List.mem_map.mp hm
    cases e
  unfold counts at h
  simp only [List.getElem?_map, List.getElem?_range (show 0 < m + 1 by omega), Option.map_some, List.count_append, h1, h2] at h
  have h := Option.some.inj h
  omega
theorem sl_to (L : List Nat) (u : Wd) : Txt.slice (wd L u) none (some 2) = wd L (u.take 2) := by
  have := SX.slice_to (a := u.map (cd L)) (i := 2) (by decide)
  rw [← List.map_take] at this
  exact this
theorem sl_from (L : List Nat) (u : Wd) : Txt.slice (wd L u) (some 2) none = wd L (u.drop 2) := by
  have := SX.slice_from (a := u.map (cd L)) (i := 2) (by decide)
  rw [← List.map_drop] at this
  exact this
theorem most_at {j : Nat} (h : j < 3) : atI [V.int 4, V.int 3, V.int 2] (1 + (j : Int) - 1) = some (.int ((4 - j : Nat) : Int)) := by
  obtain rfl | rfl | rfl : j = 0 ∨ j = 1 ∨ j = 2 := by omega
  · decide +kernel
  · decide +kernel
  · decide +kernel
section
variable {P : Program} {w : World} {K : PySem.W.Frag} {mg : Str → Option Value} {base : Heap} {f : Addr} {fd : FuncData}
abbrev s_law : Stmt := top 72
theorem sc_law : FnScope ["_law_script", "_law_box", "_law_turn", "_law_many", "_law_letters_here", "_law_one", "_law_other", "_law_told", "_law_some", "_law_way", "_law_rows", "_law_left", "_law_right", "_law_key", "_law_goal"] ["_law_script"] (defScope s_law) := ⟨rfl, rfl, rfl, by decide +kernel, rfl, by decide +kernel, by decide +kernel⟩
def sp_law (K : PySem.W.Frag) : Sp := fun vs H Q _ => ∃ (a : Addr) (xs : List Int), vs = [.ref a] ∧ SqL K H a (xs.map V.int) ∧ ∀ H', Q (.bl true) H'
theorem c_law {fBe fDr fAn fLe fSo fGo fTu fAl fLt fNu fNo fWa fCa fLs : Addr} {fdBe fdDr fdAn fdLe fdSo fdGo fdTu fdAl fdLt fdNu fdNo fdWa fdCa fdLs : FuncData} (plain : PlainAll) (F : FnP K "law" "law" s_law f fd) (B : Fre mg)
    (cBe : Cal P w K mg base 1 ["_law_script"] (sp__law_begin K) fBe fdBe) (gBe : mg "_law_begin" = some (.ref fBe)) (cDr : Cal P w K mg base 1 ["_law_box", "_law_many"] sp__law_draw fDr fdDr) (gDr : mg "_law_draw" = some (.ref fDr))
    (cAn : Cal P w K mg base 2 ["_law_box", "_law_some"] sp__law_any fAn fdAn) (gAn : mg "_law_any" = some (.ref fAn)) (cLe : Cal P w K mg base 3 ["_law_box", "_law_many"] sp__law_letters fLe fdLe) (gLe : mg "_law_letters" = some (.ref fLe))
    (cSo : Cal P w K mg base 3 ["_law_box", "_law_letters_here", "_law_most"] sp__law_some_word fSo fdSo) (gSo : mg "_law_some_word" = some (.ref fSo)) (cGo : Cal P w K mg base 2 ["_law_one"] sp_opposite fGo fdGo) (gGo : mg "_law_gone_back" = some (.ref fGo))
    (cTu : Cal P w K mg base 8 ["letters", "one", "other"] sp_turner fTu fdTu) (gTu : mg "turner" = some (.ref fTu)) (cAl : Cal P w K mg base 2 ["_law_letters_here", "_law_most"] sp__law_all_words fAl fdAl) (gAl : mg "_law_all_words" = some (.ref fAl))
    (cLt : Cal P w K mg base 5 ["_law_letters_here", "_law_word_now", "_law_one", "_law_other"] sp__law_turns fLt fdLt) (gLt : mg "_law_turns" = some (.ref fLt)) (cNu : Cal P w K mg base 1 ["_law_one", "_law_letters_here"] sp_counts_of fNu fdNu) (gNu : mg "_law_number_of" = some (.ref fNu))
    (cNo : Cal P w K mg base 2 ["_law_width", "_law_rows"] sp__law_normal fNo fdNo) (gNo : mg "_law_normal" = some (.ref fNo)) (cWa : Cal P w K mg base 3 ["_law_rows", "_law_one", "_law_letters_here", "_law_begin_here"] (sp__law_walk_of P w) fWa fdWa) (gWa : mg "_law_walk_of" = some (.ref fWa))
    (cCa : Cal P w K mg base 3 ["_law_rows", "_law_found", "_law_counts_now"] (sp__law_carried P w) fCa fdCa) (gCa : mg "_law_carried" = some (.ref fCa)) (cLs : Cal P w K mg base 1 ["_law_one", "_law_other"] (sp_zip fun x y => x - y) fLs fdLs) (gLs : mg "_law_less" = some (.ref fLs)) :
    Cal P w K mg base 9 ["_law_script"] (sp_law K) f fd := by
  refine F.cal (F.ok sc_law (fun vs H Q E h => ?_) (fun cdv A outer s H vs Q E hr h => ?_)) (fun _ _ _ _ _ _ us hl => match us, hl with | [_], _ => rfl)
  · obtain ⟨a, xs, rfl, _⟩ := h
    rfl
  · obtain ⟨a, xs, rfl, ha, q⟩ := h
    have nd := sc_law.nd
    refine ⟨_, PSs.nox (pss_cons (ps_set (i := 1) nd rfl (.inl rfl) (pe_cal cBe (hr.mono (by decide)) rfl gBe (pa_cons (pv 0) pa_nil))) (pss_cons (ps_for PassesOwn.never rfl (pi_range1 rfl B.range (pa_cons pe_int pa_nil)) (pg_name (i := 2) nd rfl (.inl rfl)) (pss_cons (ps_set (i := 3) nd rfl (.inl rfl) (pe_op op_add pe_int (pe_cal cDr (hr.mono (by decide)) rfl gDr (pa_cons (pv 1) (pa_cons pe_int pa_nil))))) (pss_cons (ps_set (i := 4) nd rfl (.inr rfl) (pe_cal cLe (hr.mono (by decide)) rfl gLe (pa_cons (pv 1) (pa_cons (pv 3) pa_nil)))) (pss_cons (ps_set (i := 5) nd rfl (.inr rfl) (pe_cal cSo (hr.mono (by decide)) rfl gSo (pa_cons (pv 1) (pa_cons (pv 4) (pa_cons pe_int pa_nil))))) (pss_cons (ps_set (i := 6) nd rfl (.inr rfl) (pe_cal cAn (hr.mono (by decide)) rfl gAn (pa_cons (pv 1) (pa_cons (pe_lst (pa_cons (pe_revS (pv 5)) (pa_cons (pe_join pe_str (pe_callB (call_sortedS rfl) (by rfl) B.sorted (by decide +kernel) (pa_cons (pv 5) pa_nil))) (pa_cons (pe_op op_add_str (pe_slice C8.sl_txt (pv 5) (po_some pe_int) po_none) (pe_slice C8.sl_txt (pv 5) po_none (po_some pe_int))) (pa_cons (pe_cal cGo (hr.mono (by decide)) rfl gGo (pa_cons (pv 5) pa_nil)) (pa_cons (pe_op op_add_str (pv 5) (pv 4)) pa_nil)))))) pa_nil)))) (pss_cons (ps_set (i := 7) nd rfl (.inl rfl) (pe_cal cTu hr rfl gTu (pa_cons (pv 4) (pa_cons (pv 5) (pa_cons (pv 6) pa_nil))))) (pss_cons (ps_setLc (i := 8) (own := [("_law_way", 9)]) (g := gName 9) rfl nd rfl rfl (sw_true rfl rfl rfl (by decide +kernel)) (pi_list (pe_cal cAl (hr.mono (by decide)) rfl gAl (pa_cons (pv 4) (pa_cons (pe_ix ix_list (pe_lst (pa_cons pe_int (pa_cons pe_int (pa_cons pe_int pa_nil)))) (pe_op op_sub (pv 3) pe_int) (fun _ _ => rfl)) pa_nil)))) (blkOk_by (N := ["_law_script", "_law_box", "_law_turn", "_law_many", "_law_letters_here", "_law_one", "_law_other", "_law_told", "_law_some", "_law_way", "_law_rows", "_law_left", "_law_right", "_law_key", "_law_goal"]) (sc := defScope s_law) (by decide +kernel)) (fun _ _ _ _ _ => (pg_name (i := 9) nd rfl (.inl rfl))) (fun _ _ _ _ _ => (pts_one (pt_val (pe_cal cLt (hr.mono (by decide)) rfl gLt (pa_cons (pv 4) (pa_cons (pv 9) (pa_cons (pv 5) (pa_cons (pv 6) pa_nil)))))))) (fun _ _ _ _ _ => (pv 9))) (pss_cons (ps_if (PW.pt (pw_and (pt_cmpR op_isN (pv 7) pe_non (nomark _)) (pw_and1 (pt_cmpR (op_neD hr.units) (pv 8) (pe_lst pa_nil) (nomark _))))) (pss_one (ps_ret pe_bl)) pss_nil) (pss_cons (ps_if (PW.pt (pw_and (pt_cmpR op_notN (pv 7) pe_non (nomark _)) (pw_and1 (pt_not (pt_val (pe_cal cLt (hr.mono (by decide)) rfl gLt (pa_cons (pv 4) (pa_cons (pv 7) (pa_cons (pv 5) (pa_cons (pv 6) pa_nil)))))))))) (pss_one (ps_ret pe_bl)) pss_nil) (pss_one (ps_if (PW.pt (pw_and (pt_cmpR op_isN (pv 7) pe_non (nomark _)) (pw_and1 (pt_cmpR (op_eqD hr.units) (pe_cal cNu (hr.mono (by decide)) rfl gNu (pa_cons (pv 5) (pa_cons (pv 4) pa_nil))) (pe_cal cNu (hr.mono (by decide)) rfl gNu (pa_cons (pv 6) (pa_cons (pv 4) pa_nil))) (nomark _))))) (pss_cons (ps_set (i := 10) nd rfl (.inl rfl) (pe_cal cNo (hr.mono (by decide)) rfl gNo (pa_cons (pv 3) (pa_cons (pe_lst (pa_cons (pe_cal cNu (hr.mono (by decide)) rfl gNu (pa_cons (pv 5) (pa_cons (pv 4) pa_nil))) pa_nil)) pa_nil)))) (pss_cons (ps_set (i := 11) nd rfl (.inl rfl) (pe_cal cWa (hr.mono (by decide)) rfl gWa (pa_cons (pv 10) (pa_cons (pv 5) (pa_cons (pv 4) (pa_cons (pe_op op_repZ (pe_tup (pa_cons pe_int pa_nil)) (pv 3)) pa_nil)))))) (pss_cons (ps_set (i := 12) nd rfl (.inl rfl) (pe_cal cWa (hr.mono (by decide)) rfl gWa (pa_cons (pv 10) (pa_cons (pv 6) (pa_cons (pv 4) (pa_cons (pe_op op_repZ (pe_tup (pa_cons pe_int pa_nil)) (pv 3)) pa_nil)))))) (pss_cons (ps_for PassesOwn.never rfl (pi_nkeys (c := kcS) (pv 11)) (pg_name (i := 13) nd rfl (.inl rfl)) (pss_one (ps_for PassesOwn.never rfl (pi_nkeys (c := kcS) (pv 12)) (pg_name (i := 14) nd rfl (.inl rfl)) (pss_one (ps_if (pt_cmpR (op_eqN (c := kcS) hr.units) (pe_cal cCa (hr.mono (by decide)) rfl gCa (pa_cons (pv 10) (pa_cons (pv 11) (pa_cons (pe_cal cLs (hr.mono (by decide)) rfl gLs (pa_cons (pe_ix ix_tup (pv 14) pe_int (fun _ _ => rfl)) (pa_cons (pe_ix ix_tup (pv 13) pe_int (fun _ _ => rfl)) pa_nil))) pa_nil)))) (pv 12) (nomark _)) (pss_one (ps_ret pe_bl)) pss_nil))))) (pss_one (ps_if (pt_cmpR (op_eqN (c := kcS) hr.units) (pv 11) (pv 12) (nomark _)) (pss_one (ps_ret pe_bl)) pss_nil)))))) pss_nil))))))))))) (pss_one (ps_ret (pe_and (pe_cmpR op_isN (pe_cal cTu hr rfl gTu (pa_cons pe_str (pa_cons pe_str (pa_cons pe_str pa_nil)))) pe_non (nomark _)) (pe_one (pe_cmpR op_isN (pe_cal cTu hr rfl gTu (pa_cons pe_str (pa_cons pe_str (pa_cons pe_str pa_nil)))) pe_non (nomark _)))))))), ?_⟩
    have h100 : (100000 : Nat) ≤ sizeLine := by decide
    have hsz : sizeLine = 16777216 := by decide
    refine ⟨_, rfl, a, xs, rfl, ha, fun H0 b ma sm0 hB0 => ?_⟩
    refine ⟨_, rfl, by decide, by decide, ?_⟩
    refine for_it walk_range (fun i σ H1 => ∃ (y2 y3 y4 y5 y6 y7 y8 y9 y10 y11 y12 y13 y14 : Option V), σ = [some (.ref a), some (.ref b), y2, y3, y4, y5, y6, y7, y8, y9, y10, y11, y12, y13, y14] ∧ BxAt ma H1 b)
      ⟨_, _, _, _, _, _, _, _, _, _, _, _, _, rfl, hB0⟩ (fun _ _ _ _ _ => trivial) (fun i x σ H1 H' hi pv y => ?_) (fun σ H1 pv => ?_)
    · obtain ⟨y2, y3, y4, y5, y6, y7, y8, y9, y10, y11, y12, y13, y14, rfl, hB⟩ := pv
      obtain ⟨rfl, rfl⟩ := y
      refine ⟨_, rfl, b, ma, 3, rfl, hB, by decide, by decide, fun H2 d sx2 hB2 hd0 hd1 => ?_⟩
      obtain ⟨j, rfl⟩ : ∃ j : Nat, d = (j : Int) := ⟨d.toNat, by omega⟩
      have hj : j < 3 := by omega
      refine ⟨_, _, rfl, rfl, ?_⟩
      refine ⟨_, rfl, _, rfl, b, ma, 1 + j, rfl, hB2, by omega, by omega, fun H3 L sx3 hB3 lg hLj => ?_⟩
      have hltl : (lt L).length = L.length := lt_size L
      have hn1 := lg.pos
      have hn3 := lg.le
      refine ⟨_, rfl, _, rfl, b, ma, L, 5, rfl, hB3, lg, by decide, fun H4 u sx4 hB4 hu hul => ?_⟩
      -- the other word
      refine ⟨_, rfl, _, rfl, _, rfl, by rw [wd_len]; omega, ?_⟩
      rw [wd_rev]
      refine ⟨⟨_, rfl⟩, _, rfl, _, rfl, by rw [wd_len]; omega, fun ys p5 hperm np5 => ?_⟩
      rw [sgs_wd] at hperm
      obtain ⟨u2, rfl, hu2⟩ := perm_map_inv hperm u rfl
      have hu2l : u2.length = u.length := hu2.length_eq
      have s5 : Same H4 (upd H4 p5 (.lst ((u2.map fun g => wd L [g]).map V.str))) := same_new np5
      have h5 := upd_same (H := H4) (a := p5) (o := .lst ((u2.map fun g => wd L [g]).map V.str))
      generalize upd H4 p5 (.lst ((u2.map fun g => wd L [g]).map V.str)) = H5 at s5 h5 ⊢
      have ej : Txt.join (Str.ofString "") (u2.map fun g => wd L [g]) = wd L u2 := by rw [map_one, join_wd, flat_one]
      refine ⟨Str.ofString "", p5, (u2.map fun g => wd L [g]), rfl, rfl, .inl (.of h5), by rw [map_one, sum_wd, flat_one, e_len]; omega, ?_⟩
      rw [ej]
      refine ⟨_, rfl, _, rfl, _, rfl, by rw [wd_len]; omega, _, rfl, _, rfl, _, rfl, by rw [wd_len]; omega, ?_⟩
      rw [sl_to, sl_from]
      refine ⟨_, _, rfl, rfl, by rw [wd_len, wd_len]; simp; omega, ?_⟩
      rw [wd_app]
      refine ⟨_, rfl, L, u, lg, hu, by omega, rfl, fun H6 sm6 => ?_⟩
      refine ⟨_, rfl, _, rfl, _, _, rfl, rfl, by rw [hltl, wd_len]; omega, ?_⟩
      have eol : wd L u ++ lt L = wd L (u ++ letW L.length) := by
        rw [← wd_app, ← lt_letW]
      rw [eol]
      refine ⟨by show 5 ≤ sizeLine; omega, fun l7 n7 => ?_⟩
      have s7 : Same H6 (upd H6 l7 (.lst (([u.reverse, u2, u.drop 2 ++ u.take 2, inv u, u ++ letW L.length].map (wd L)).map V.str))) := same_new n7
      have h7 := upd_same (H := H6) (a := l7) (o := .lst (([u.reverse, u2, u.drop 2 ++ u.take 2, inv u, u ++ letW L.length].map (wd L)).map V.str))
      have hB7 := (hB4.same s5).same (sm6.trans s7)
      refine ⟨b, ma, l7, [u.reverse, u2, u.drop 2 ++ u.take 2, inv u, u ++ letW L.length].map (wd L), rfl, hB7, h7, by simp, by simp, fun H8 z sx8 hB8 hz => ?_⟩
      obtain ⟨v, hvm, rfl⟩ := List.mem_map.mp hz
      obtain ⟨hv, hvl, hv5⟩ : WF L.length v ∧ v.length ≤ 8 ∧ (counts L.length u = counts L.length v → counts L.length u = zeroP L.length ∨ (u.length ≤ 5 ∧ v.length ≤ 5)) := by
        have hlw : (letW L.length).length = L.length := by simp [letW]
        simp only [List.mem_cons, List.not_mem_nil, or_false] at hvm
        rcases hvm with rfl | rfl | rfl | rfl | rfl
        · exact ⟨fun g hg => hu g (List.mem_reverse.mp hg), by simp; omega, fun _ => .inr ⟨hul, by simp; omega⟩⟩
        · exact ⟨fun g hg => hu g (hu2.mem_iff.mp hg), by omega, fun _ => .inr ⟨hul, by omega⟩⟩
        · exact ⟨wf_app (fun g hg => hu g (List.mem_of_mem_drop hg)) (fun g hg => hu g (List.mem_of_mem_take hg)), by simp; omega, fun _ => .inr ⟨hul, by simp; omega⟩⟩
        · exact ⟨inv_wf hu, by rw [inv_len]; omega, fun _ => .inr ⟨hul, by rw [inv_len]; omega⟩⟩
        · exact ⟨wf_app hu (letW_wf _), by rw [List.length_append, hlw]; omega, fun e => absurd e (letW_counts hn1 u)⟩
      have T := plain L.length u v hn1 hn3 hu hv (by omega) hvl hv5
      refine ⟨_, rfl, _, rfl, _, rfl, L, u, v, rfl, lg, hu, hv, by omega, by omega, T.ok, fun H9 sm9 => ?_⟩
      have hB9 := hB8.same sm9
      -- the words that turn
      refine ⟨_, rfl, by show 3 ≤ sizeLine; omega, fun l10 n10 => ?_⟩
      have s10 : Same H9 (upd H9 l10 (.lst [.int 4, .int 3, .int 2])) := same_new n10
      have h10 := upd_same (H := H9) (a := l10) (o := .lst [.int 4, .int 3, .int 2])
      refine ⟨_, rfl, _, _, rfl, rfl, l10, _, _, _, rfl, rfl, .of h10, most_at hj, ?_⟩
      refine ⟨L, 4 - j, rfl, lg, by omega, fun H11 lw ws sm11 hws hwl hlw => ?_⟩
      have s911 := s10.trans sm11
      have hlw' := hlw.strs
      refine ⟨lw, rfl, ⟨_, .of hlw'⟩, fun D nD => ?_⟩
      refine lc_gen walk_list ecStr ws (fun t => if turnsM L.length t u v = true then some (wd L t) else none) nD (by simp) (by simp; omega) (fun H12 sm => .of (sm _ _ hlw')) (fun k y H12 H13 t ht sm yy N1 N0 k1 k0 => ?_) (fun H12 sm12 hl12 => ?_)
      · obtain ⟨rfl, e⟩ := yy
        rw [List.getElem?_map, List.getElem?_map, ht] at e
        have e := (Option.some.inj e).symm
        subst e
        obtain ⟨w1, w2⟩ := hws t (List.mem_of_getElem? ht)
        refine ⟨rfl, _, rfl, _, rfl, _, rfl, _, rfl, L, t, u, v, rfl, lg, w1, hu, hv, by omega, by omega, fun H14 sm14 => ⟨_, rfl, ?_⟩⟩
        by_cases ht : turnsM L.length t u v = true
        · exact iteY ht ⟨_, rfl, k1 _ _ _ (if_pos ht) rfl sm14⟩
        · exact iteN (by simpa using ht) (k0 _ (if_neg ht) sm14)
      · have s12 := s911.trans sm12
        have hB12 := hB9.same s12
        cases hM : turnerM L.length u v with
        | some t =>
          obtain ⟨ht1, ht2⟩ := T.wf t hM
          refine ⟨_, rfl, rfl, _, rfl, iteN rfl (iteF ?_)⟩
          refine ⟨_, rfl, rfl, _, rfl, iteY rfl ?_⟩
          refine ⟨_, rfl, _, rfl, _, rfl, _, rfl, L, t, u, v, rfl, lg, ht1, hu, hv, by omega, by omega, fun H14 sm14 => ⟨_, rfl, ?_⟩⟩
          rw [T.B t hM]
          refine iteN rfl ?_
          refine ⟨_, rfl, rfl, _, rfl, iteN rfl (iteF ?_)⟩
          exact ⟨_, _, _, _, _, _, _, _, _, _, _, _, _, rfl, hB12.same sm14⟩
        | none =>
          have hnil : (ws.filterMap fun t => if turnsM L.length t u v = true then some (wd L t) else none) = [] := by
            rw [List.filterMap_eq_nil_iff]
            intro t ht
            rw [T.A hM t (hws t ht).1]
            rfl
          rw [hnil] at hl12
          refine ⟨_, rfl, rfl, _, rfl, iteY rfl ?_⟩
          refine ⟨_, rfl, Nat.zero_le _, fun z nz => ?_⟩
          have sz : Same H12 (upd H12 z (.lst [])) := same_new nz
          refine rd_neNil (hl12.same sz) ⟨(fun x hx => nomatch hx), (fun x hx => nomatch hx)⟩ upd_same ⟨_, rfl, iteN rfl ?_⟩
          have hB13 := hB12.same sz
          generalize upd H12 z (.lst []) = H13 at hB13 ⊢
          refine ⟨_, rfl, rfl, _, rfl, iteN rfl (iteF ?_)⟩
          refine ⟨_, rfl, rfl, _, rfl, iteY rfl ?_⟩
          refine ⟨_, rfl, _, rfl, L, u, lg, hu, rfl, fun H14 c1 sm14 hc1 => ?_⟩
          refine ⟨_, rfl, _, rfl, L, v, lg, hv, rfl, fun H15 c2 sm15 hc2 => ?_⟩
          refine rd_eqP (sm15 _ _ hc1) hc2 ⟨_, rfl, ?_⟩
          have hB15 := hB13.same (sm14.trans sm15)
          by_cases hcc : counts L.length u = counts L.length v
          · refine iteY (decide_eq_true hcc) ?_
            obtain ⟨C1, C2⟩ := T.C hM hcc
            obtain ⟨hRo, hPo⟩ := T.rows
            have hTl := T.len
            have hTb := T.bd
            have hTc := T.bc
            have hlenU := lwOf_len (nrmR (counts L.length u)) (streetsOf (zeroP L.length) u)
            have hlenV := lwOf_len (nrmR (counts L.length u)) (streetsOf (zeroP L.length) v)
            have hndU := nodup_lwOf (nrmR (counts L.length u)) (streetsOf (zeroP L.length) u)
            rw [streets_len] at hlenU hlenV
            change ((lawW L.length (nrmR (counts L.length u)) u).map (·.1)).Nodup at hndU
            change (lawW L.length (nrmR (counts L.length u)) u).length ≤ _ at hlenU
            refine ⟨_, rfl, _, rfl, _, rfl, L, u, lg, hu, rfl, fun H16 c3 sm16 hc3 => ?_⟩
            refine ⟨by show 1 ≤ sizeLine; omega, fun l17 n17 => ?_⟩
            have s17 : Same H16 (upd H16 l17 (.lst [.ref c3])) := same_new n17
            have h17 : LsE ecP (upd H16 l17 (.lst [.ref c3])) l17 [counts L.length u] := ⟨_, upd_same, .cons ⟨c3, rfl, s17 _ _ hc3⟩ .nil⟩
            have hB17 := hB15.same (sm16.trans s17)
            generalize upd H16 l17 (.lst [.ref c3]) = H17 at h17 hB17 ⊢
            refine ⟨1 + j, l17, counts L.length u, rfl, h17, (counts_len _ _).trans hLj, by omega, by omega, fun H18 lr sm18 hlr => ?_⟩
            have hB18 := hB17.same sm18
            -- left
            refine ⟨_, rfl, _, rfl, _, rfl, by show 1 ≤ sizeLine; omega, fun t0 n0 => ?_⟩
            refine ⟨_, rfl, t0, ((1 + j : Nat) : Int), _, rfl, rfl, upd_same, by simp, by omega, by omega, by show 1 ≤ 1000; decide, fun z1 H19 sm19 hz1 => ?_⟩
            rw [Int.toNat_natCast, ← hLj, rep_zero] at hz1
            have s1819 := (same_new (o := .tup [.int 0]) n0).trans sm19
            have hlr19 := hlr.same s1819
            refine ⟨lr, z1, L, u, nrmR (counts L.length u), zeroP L.length, rfl, lg, hu, by omega, hlr19, hRo, hPo, hz1, zeroP_len _, (fun _ s hs => hTb s (.inl hs)), fun H20 d1 sm20 hd1 => ?_⟩
            change FN P w kcS H20 d1 (lawW L.length (nrmR (counts L.length u)) u) at hd1
            have hlr20 := hlr19.same sm20
            have hB20 := hB18.same (s1819.trans sm20)
            -- right
            refine ⟨_, rfl, _, rfl, _, rfl, by show 1 ≤ sizeLine; omega, fun t2 n2 => ?_⟩
            refine ⟨_, rfl, t2, ((1 + j : Nat) : Int), _, rfl, rfl, upd_same, by simp, by omega, by omega, by show 1 ≤ 1000; decide, fun z2 H21 sm21 hz2 => ?_⟩
            rw [Int.toNat_natCast, ← hLj, rep_zero] at hz2
            have s2021 := (same_new (o := .tup [.int 0]) n2).trans sm21
            have hlr21 := hlr20.same s2021
            refine ⟨lr, z2, L, v, nrmR (counts L.length u), zeroP L.length, rfl, lg, hv, by omega, hlr21, hRo, hPo, hz2, zeroP_len _, (fun _ s hs => hTb s (.inr hs)), fun H22 d2 sm22 hd2 => ?_⟩
            change FN P w kcS H22 d2 (lawW L.length (nrmR (counts L.length u)) v) at hd2
            have s2022 := s2021.trans sm22
            have hlr22 := hlr20.same s2022
            have hd1 := hd1.same s2022
            have hB22 := hB20.same s2022
            generalize lawW L.length (nrmR (counts L.length u)) u = le at C1 C2 hTl hTc hlenU hndU hd1
            generalize lawW L.length (nrmR (counts L.length u)) v = ri at C1 C2 hTl hTc hd2
            generalize nrmR (counts L.length u) = R at C1 hRo hPo hlr22
            obtain ⟨od1, hf1⟩ := hd1.o
            obtain ⟨od2, hf2⟩ := hd2.o
            refine ⟨_, rfl, d1, od1, le, rfl, hf1, ?_⟩
            refine for_it walk_nkeys (fun i1 σ H23 => ∃ (y2 y3 y7 y8 y9 y13 y14 : Option V), σ = [some (.ref a), some (.ref b), y2, y3, some (.str (lt L)), some (.str (wd L u)), some (.str (wd L v)), y7, y8, y9, some (.ref lr), some (.ref d1), some (.ref d2), y13, y14] ∧ Same H22 H23)
              ⟨_, _, _, _, _, _, _, rfl, Same.refl _⟩ (fun i1 σ H23 _ ⟨_, _, _, _, _, _, _, _, sm⟩ => hf1.same sm) (fun i1 y σ H23 H24 hi1 pv yy => ?_) (fun σ H23 pv => ?_)
            · obtain ⟨y2, y3, y7, y8, y9, y13, y14, rfl, sm23⟩ := pv
              obtain ⟨rfl, k, kn, ka, hek, rfl, qk, hqk, hka⟩ := yy
              have hkm := List.mem_of_getElem? hek
              refine ⟨_, rfl, d2, od2, ri, rfl, hf2.same sm23, ?_⟩
              refine for_it walk_nkeys (fun i2 σ H25 => ∃ (y2 y3 y7 y8 y9 y14 : Option V), σ = [some (.ref a), some (.ref b), y2, y3, some (.str (lt L)), some (.str (wd L u)), some (.str (wd L v)), y7, y8, y9, some (.ref lr), some (.ref d1), some (.ref d2), some (.ref ka), y14] ∧ Same H24 H25)
                ⟨_, _, _, _, _, _, rfl, Same.refl _⟩ (fun i2 σ H25 _ ⟨_, _, _, _, _, _, _, sm⟩ => hf2.same (sm23.trans sm)) (fun i2 y σ H25 H26 hi2 pv yy => ?_) (fun σ H25 pv => ?_)
              · obtain ⟨y2, y3, y7, y8, y9, y14, rfl, sm25⟩ := pv
                obtain ⟨rfl, g, gn, ga, heg, rfl, qg, hqg, hga⟩ := yy
                have hgm := List.mem_of_getElem? heg
                have hkl := hTl _ (.inl hkm)
                have hgl := hTl _ (.inr hgm)
                have hka' := sm25 _ _ hka
                have hqk' := sm25 _ _ hqk
                have smF := sm23.trans sm25
                refine ⟨_, rfl, _, rfl, _, rfl, ga, _, _, _, rfl, rfl, .of hga, atI_nat (j := 0) rfl, _, rfl, ka, _, _, _, rfl, rfl, .of hka', atI_nat (j := 0) rfl, qg, qk, g.1, k.1, rfl, hqg, hqk', by have : g.1.length = L.length := hgl; omega, fun H27 c27 sm27 hc27 => ?_⟩
                have smG := smF.trans sm27
                refine ⟨lr, d1, c27, L.length, R, le, subP g.1 k.1, rfl, hlr22.same smG, hRo, hPo, (hf1.same smG).f, hndU, (fun e he => hTl e (.inl he)), by omega, hc27, by rw [subP_len _ _ (by have h1 : g.1.length = L.length := hgl; have h2 : k.1.length = L.length := hkl; omega)]; exact hgl, (fun _ e he => hTc e he _ hkm _ hgm), fun H28 d28 sm28 hd28 => ?_⟩
                refine ⟨_, rfl, d28, d2, _, _, rfl, rfl, hd28.rd, (hf2.same (smG.trans sm28)).f.rd, _, rfl, ?_⟩
                refine iteN (C1 _ hkm _ hgm) ?_
                exact ⟨_, _, _, _, _, _, rfl, sm25.trans (sm27.trans sm28)⟩
              · obtain ⟨y2, y3, y7, y8, y9, y14, rfl, sm25⟩ := pv
                exact ⟨_, _, _, _, _, _, _, rfl, sm23.trans sm25⟩
            · obtain ⟨y2, y3, y7, y8, y9, y13, y14, rfl, sm23⟩ := pv
              refine ⟨_, rfl, _, rfl, d1, d2, _, _, rfl, rfl, (hf1.same sm23).f.rd, (hf2.same sm23).f.rd, _, rfl, ?_⟩
              refine iteN C2 ?_
              exact ⟨_, _, _, _, _, _, _, _, _, _, _, _, _, rfl, hB22.same sm23⟩
          · exact iteN (decide_eq_false hcc) ⟨_, _, _, _, _, _, _, _, _, _, _, _, _, rfl, hB15⟩
    · obtain ⟨y2, y3, y4, y5, y6, y7, y8, y9, y10, y11, y12, y13, y14, rfl, hB⟩ := pv
      have lg : LG [97, 98] := ⟨by decide, by decide, by decide, by decide⟩
      have e1 : Str.ofString "ab" = lt [97, 98] := by decide +kernel
      have e2 : Str.ofString "abAB" = wd [97, 98] [(0, true), (1, true), (0, false), (1, false)] := by decide +kernel
      have e3 : Str.ofString "baBA" = wd [97, 98] [(1, true), (0, true), (1, false), (0, false)] := by decide +kernel
      have e4 : Str.ofString "aabAAB" = wd [97, 98] [(0, true), (0, true), (1, true), (0, false), (0, false), (1, false)] := by decide +kernel
      have w1 : WF 2 [(0, true), (1, true), (0, false), (1, false)] := by unfold WF; decide
      have w2 : WF 2 [(1, true), (0, true), (1, false), (0, false)] := by unfold WF; decide
      have w3 : WF 2 [(0, true), (0, true), (1, true), (0, false), (0, false), (1, false)] := by unfold WF; decide
      have T1 := plain 2 _ _ (by decide) (by decide) w1 w2 (by decide) (by decide) (fun _ => .inl (by decide))
      have T2 := plain 2 _ _ (by decide) (by decide) w3 w1 (by decide) (by decide) (fun _ => .inl (by decide))
      refine ⟨[97, 98], _, _, by rw [← e1, ← e2, ← e3]; rfl, lg, w1, w2, by decide, by decide, T1.ok, fun H2 sm2 => ?_⟩
      rw [show turnerM ([97, 98] : List Nat).length _ _ = none from last1]
      refine ⟨rfl, true, rfl, iteT ?_⟩
      refine ⟨[97, 98], _, _, by rw [← e1, ← e2, ← e4]; rfl, lg, w3, w1, by decide, by decide, T2.ok, fun H3 sm3 => ?_⟩
      rw [show turnerM ([97, 98] : List Nat).length _ _ = none from last2]
      exact ⟨rfl, q _⟩
end
end K35
/-! text M1 -/
set_option Elab.async false
set_option linter.all false
set_option maxRecDepth 100000
set_option maxHeartbeats 4000000
/-! plain law 1: sums over pairs of a key and a number -/
namespace K35
open PySem PySem.Spec PyProof.Rows L2
section
variable {κ κ' : Type} [DecidableEq κ] [DecidableEq κ']
def lin {κ : Type} (φ : κ → Int) : List (κ × Int) → Int
  | [] => 0
  | e :: l => φ e.1 * e.2 + lin φ l
def ind (k : κ) : κ → Int := fun x => if x = k then 1 else 0
def sm (l : List (κ × Int)) (k : κ) : Int := lin (ind k) l
theorem lin_app {κ : Type} (φ : κ → Int) (a b : List (κ × Int)) : lin φ (a ++ b) = lin φ a + lin φ b := by
  induction a with
  | nil => simp [lin]
  | cons e a ih => rw [List.cons_append, lin, lin, ih]; omega
theorem lin_perm {κ : Type} (φ : κ → Int) {a b : List (κ × Int)} (h : a.Perm b) : lin φ a = lin φ b := by
  induction h with
  | nil => rfl
  | cons e _ ih => rw [lin, lin, ih]
  | swap x y l => rw [lin, lin, lin, lin]; omega
  | trans _ _ h1 h2 => rw [h1, h2]
theorem lin_map {κ κ' : Type} (φ : κ' → Int) (f : κ → κ') (l : List (κ × Int)) : lin φ (l.map fun e => (f e.1, e.2)) = lin (fun x => φ (f x)) l := by
  induction l with
  | nil => rfl
  | cons e l ih => rw [List.map_cons, lin, lin, ih]
theorem lin_times {κ : Type} (φ : κ → Int) (m : Int) (l : List (κ × Int)) : lin φ (l.map fun e => (e.1, m * e.2)) = m * lin φ l := by
  induction l with
  | nil => simp [lin]
  | cons e l ih => rw [List.map_cons, lin, lin, ih, Int.mul_add, Int.mul_left_comm]
theorem lin_congr {κ : Type} {φ ψ : κ → Int} {l : List (κ × Int)} (h : ∀ e ∈ l, φ e.1 = ψ e.1) : lin φ l = lin ψ l := by
  induction l with
  | nil => rfl
  | cons e l ih => rw [lin, lin, h e (List.mem_cons_self ..), ih fun x hx => h x (List.mem_cons_of_mem _ hx)]
theorem lin_add {κ : Type} (φ ψ : κ → Int) (l : List (κ × Int)) : lin (fun x => φ x + ψ x) l = lin φ l + lin ψ l := by
  induction l with
  | nil => rfl
  | cons e l ih => rw [lin, lin, lin, ih, Int.add_mul]; omega
theorem lin_sub {κ : Type} (φ ψ : κ → Int) (l : List (κ × Int)) : lin (fun x => φ x - ψ x) l = lin φ l - lin ψ l := by
  induction l with
  | nil => rfl
  | cons e l ih => rw [lin, lin, lin, ih, Int.sub_mul]; omega
theorem lin_zero {κ : Type} {φ : κ → Int} {l : List (κ × Int)} (h : ∀ e ∈ l, φ e.1 = 0) : lin φ l = 0 := by
  induction l with
  | nil => rfl
  | cons e l ih => rw [lin, h e (List.mem_cons_self ..), ih fun x hx => h x (List.mem_cons_of_mem _ hx)]; omega
theorem lin_filter (φ : κ → Int) (k : κ) (l : List (κ × Int)) : lin φ l = φ k * sm l k + lin φ (l.filter fun e => decide (e.1 ≠ k)) := by
  induction l with
  | nil => simp [lin, sm]
  | cons e l ih =>
    have h1 : sm (e :: l) k = ind k e.1 * e.2 + sm l k := rfl
    rw [lin, ih, h1, List.filter_cons, Int.mul_add]
    by_cases h : e.1 = k
    · rw [if_neg (by simpa using h)]
      have : ind k e.1 = 1 := if_pos h
      rw [this, h, Int.one_mul]
      omega
    · rw [if_pos (by simpa using h), lin]
      have : ind k e.1 = 0 := if_neg h
      rw [this]
      simp
      omega
theorem sm_filter (k k' : κ) (l : List (κ × Int)) : sm (l.filter fun e => decide (e.1 ≠ k)) k' = if k' = k then 0 else sm l k' := by
  induction l with
  | nil => simp [sm, lin]
  | cons e l ih =>
    have h1 : sm (e :: l) k' = ind k' e.1 * e.2 + sm l k' := rfl
    rw [List.filter_cons, h1]
    by_cases h : e.1 = k
    · rw [if_neg (by simpa using h), ih]
      split
      · rfl
      · rename_i h2
        have : ind k' e.1 = 0 := if_neg fun q => h2 (q.symm.trans h)
        rw [this]
        omega
    · rw [if_pos (by simpa using h)]
      have h3 : sm (e :: l.filter fun e => decide (e.1 ≠ k)) k' = ind k' e.1 * e.2 + sm (l.filter fun e => decide (e.1 ≠ k)) k' := rfl
      rw [h3, ih]
      split
      · rename_i h2
        have : ind k' e.1 = 0 := if_neg fun q => h (q.trans h2)
        rw [this]
        omega
      · rfl
theorem lin_of_zero (φ : κ → Int) : ∀ (n : Nat) (l : List (κ × Int)), l.length ≤ n → (∀ k, sm l k = 0) → lin φ l = 0
  | 0, l, hl, _ => by
    have : l = [] := List.eq_nil_of_length_eq_zero (by omega)
    subst this
    rfl
  | n + 1, [], _, _ => rfl
  | n + 1, e :: l, hl, h => by
    rw [lin_filter φ e.1, h e.1, lin_of_zero φ n]
    · omega
    · have : (e :: l).filter (fun x => decide (x.1 ≠ e.1)) = l.filter fun x => decide (x.1 ≠ e.1) := by rw [List.filter_cons, if_neg (by simp)]
      rw [this]
      have := List.length_filter_le (fun x : κ × Int => decide (x.1 ≠ e.1)) l
      rw [List.length_cons] at hl
      omega
    · intro k
      rw [sm_filter]
      split
      · rfl
      · exact h k
/-- what is linear depends on the sums alone -/
theorem lin_ext (φ : κ → Int) {a b : List (κ × Int)} (h : ∀ k, sm a k = sm b k) : lin φ a = lin φ b := by
  have h0 := lin_of_zero φ _ (a ++ b.map fun e => (e.1, (-1) * e.2)) (Nat.le_refl _) fun k => by
    show lin (ind k) _ = 0
    rw [lin_app, lin_times]
    have := h k
    unfold sm at this
    omega
  rw [lin_app, lin_times] at h0
  omega
def pushE {κ κ' : Type} (f : κ → κ') (l : List (κ × Int)) : List (κ' × Int) := l.map fun e => (f e.1, e.2)
theorem lin_push {κ κ' : Type} (φ : κ' → Int) (f : κ → κ') (l : List (κ × Int)) : lin φ (pushE f l) = lin (fun x => φ (f x)) l := lin_map φ f l
theorem sm_push_ext (f : κ → κ') {a b : List (κ × Int)} (h : ∀ k, sm a k = sm b k) (k : κ') : sm (pushE f a) k = sm (pushE f b) k := by
  show lin _ _ = lin _ _
  rw [lin_push, lin_push]
  exact lin_ext _ h
/-- no key twice, no zero -/
structure Can (es : List (κ × Int)) : Prop where
  nd : (es.map (·.1)).Nodup
  nz : ∀ e ∈ es, e.2 ≠ 0
theorem getE_none {α : Type} {es : List (κ × α)} {k : κ} (h : ∀ e ∈ es, e.1 ≠ k) : getE es k = none := by
  unfold getE
  rw [List.find?_eq_none.mpr fun e he => by simpa using h e he]
  rfl
theorem getE_some {α : Type} : ∀ {es : List (κ × α)} {k : κ} {v : α}, getE es k = some v → (k, v) ∈ es
  | e :: es, k, v, h => by
    by_cases q : e.1 = k
    · rw [getE_pos q] at h
      cases h
      rw [← q]
      exact List.mem_cons_self ..
    · rw [getE_neg q] at h
      exact List.mem_cons_of_mem _ (getE_some h)
theorem sm_val : ∀ {es : List (κ × Int)}, (es.map (·.1)).Nodup → ∀ k, sm es k = (getE es k).getD 0
  | [], _, k => rfl
  | e :: es, h, k => by
    obtain ⟨h1, h2⟩ := List.nodup_cons.mp h
    have ih := sm_val h2 k
    have hs : sm (e :: es) k = ind k e.1 * e.2 + sm es k := rfl
    rw [hs]
    by_cases q : e.1 = k
    · have : ind k e.1 = 1 := if_pos q
      rw [getE_pos q, this, ih, getE_none]
      · simp
      · intro x hx e'
        exact h1 (List.mem_map.mpr ⟨x, hx, e'.trans q.symm⟩)
    · have : ind k e.1 = 0 := if_neg q
      rw [getE_neg q, this, ih]
      omega
theorem mem_can {es : List (κ × Int)} (h : Can es) {k : κ} {v : Int} : (k, v) ∈ es ↔ v ≠ 0 ∧ sm es k = v := by
  rw [sm_val h.nd]
  constructor
  · intro hm
    exact ⟨h.nz _ hm, by rw [getE_of h.nd hm]; rfl⟩
  · rintro ⟨h1, h2⟩
    cases e : getE es k with
    | none => rw [e] at h2; exact absurd h2.symm h1
    | some w =>
      rw [e] at h2
      have h2 : w = v := h2
      rw [← h2]
      exact getE_some e
theorem nodup_of_keys {es : List (κ × Int)} (h : (es.map (·.1)).Nodup) : es.Nodup := by
  induction es with
  | nil => exact .nil
  | cons e es ih =>
    obtain ⟨h1, h2⟩ := List.nodup_cons.mp h
    exact List.nodup_cons.mpr ⟨fun q => h1 (List.mem_map.mpr ⟨e, q, rfl⟩), ih h2⟩
theorem perm_of_mem {α : Type} [DecidableEq α] {a b : List α} (ha : a.Nodup) (hb : b.Nodup) (h : ∀ x, x ∈ a ↔ x ∈ b) : a.Perm b := by
  rw [List.perm_iff_count]
  intro x
  rw [ha.count, hb.count]
  by_cases q : x ∈ a
  · rw [if_pos q, if_pos ((h x).mp q)]
  · rw [if_neg q, if_neg (fun z => q ((h x).mpr z))]
theorem can_perm {es fs : List (κ × Int)} (h1 : Can es) (h2 : Can fs) (h : ∀ k, sm es k = sm fs k) : es.Perm fs := by
  refine perm_of_mem (nodup_of_keys h1.nd) (nodup_of_keys h2.nd) fun ⟨k, v⟩ => ?_
  rw [mem_can h1, mem_can h2, h k]
theorem sm_perm {es fs : List (κ × Int)} (h : es.Perm fs) (k : κ) : sm es k = sm fs k := lin_perm _ h
theorem can_nil {es : List (κ × Int)} (h : Can es) : es = [] ↔ ∀ k, sm es k = 0 := by
  constructor
  · rintro rfl k
    rfl
  · intro hz
    cases es with
    | nil => rfl
    | cons e es =>
      have := (mem_can h).mp (List.mem_cons_self .. : (e.1, e.2) ∈ e :: es)
      exact absurd ((hz e.1).symm.trans this.2).symm this.1
theorem eqE_iff {es fs : List (κ × Int)} (h1 : Can es) (h2 : Can fs) : eqE es fs = true ↔ ∀ k, sm es k = sm fs k := by
  unfold eqE
  rw [Bool.and_eq_true, List.all_eq_true, beq_iff_eq]
  constructor
  · rintro ⟨hl, ha⟩ k
    have hsub : ∀ x ∈ es, x ∈ fs := fun x hx => getE_some (of_decide_eq_true (ha x hx))
    refine sm_perm (perm_of_mem (nodup_of_keys h1.nd) (nodup_of_keys h2.nd) fun x => ⟨hsub x, fun hx => ?_⟩) k
    refine Classical.byContradiction fun q => ?_
    have h3 := nd_len es (fs.erase x) (nodup_of_keys h1.nd) fun y hy => (List.mem_erase_of_ne (by rintro rfl; exact q hy)).mpr (hsub y hy)
    rw [List.length_erase_of_mem hx] at h3
    have := List.length_pos_of_mem hx
    omega
  · intro h
    refine ⟨(can_perm h1 h2 h).length_eq, fun e he => decide_eq_true ?_⟩
    exact getE_of h2.nd ((can_perm h1 h2 h).mem_iff.mp he)
/-! what the stores do to the sums -/
theorem getE_put {α : Type} (es : List (κ × α)) (k k' : κ) (v : α) : getE (putE es k v) k' = if k = k' then some v else getE es k' := by
  unfold putE
  split
  · rename_i hs
    induction es with
    | nil => cases hs
    | cons e es ih =>
      rw [List.map_cons]
      by_cases q : e.1 = k
      · rw [if_pos q]
        by_cases q2 : k = k'
        · rw [getE_pos (show (e.1, v).1 = k' from q.trans q2), if_pos q2]
        · have q3 : ¬ e.1 = k' := fun z => q2 (q.symm.trans z)
          rw [getE_neg (show ¬ (e.1, v).1 = k' from q3), if_neg q2, getE_neg q3]
          clear ih hs
          induction es with
          | nil => rfl
          | cons x es ih =>
            rw [List.map_cons]
            by_cases z : x.1 = k
            · rw [if_pos z, getE_neg (show ¬ (x.1, v).1 = k' from fun y => q2 (z.symm.trans y)), getE_neg (fun y => q2 (z.symm.trans y)), ih]
            · rw [if_neg z]
              by_cases y : x.1 = k'
              · rw [getE_pos y, getE_pos y]
              · rw [getE_neg y, getE_neg y, ih]
      · rw [getE_neg q] at hs
        rw [if_neg q]
        by_cases y : e.1 = k'
        · rw [getE_pos y, getE_pos y, if_neg (fun z => q (y.trans z.symm))]
        · rw [getE_neg y, getE_neg y, ih hs]
  · rename_i hs
    have hn : getE es k = none := by simpa using hs
    clear hs
    induction es with
    | nil =>
      rw [List.nil_append]
      by_cases q : k = k'
      · rw [getE_pos (p := (k, v)) q, if_pos q]
      · rw [getE_neg (p := (k, v)) q, if_neg q]
    | cons e es ih =>
      by_cases q : e.1 = k
      · rw [getE_pos q] at hn
        cases hn
      · rw [getE_neg q] at hn
        rw [List.cons_append]
        by_cases y : e.1 = k'
        · rw [getE_pos y, getE_pos y, if_neg (fun z => q (y.trans z.symm))]
        · rw [getE_neg y, getE_neg y, ih hn]
theorem getE_del {α : Type} (es : List (κ × α)) (k k' : κ) : getE (delE es k) k' = if k = k' then none else getE es k' := by
  unfold delE
  induction es with
  | nil => simp [getE_nil]
  | cons e es ih =>
    rw [List.filter_cons]
    by_cases q : e.1 = k
    · rw [if_neg (by simpa using q), ih]
      split
      · rfl
      · rename_i z
        rw [getE_neg (fun y => z (q.symm.trans y))]
    · rw [if_pos (by simpa using q)]
      by_cases y : e.1 = k'
      · rw [getE_pos y, getE_pos y, if_neg (fun z => q (y.trans z.symm))]
      · rw [getE_neg y, getE_neg y, ih]
theorem mem_put {α : Type} {es : List (κ × α)} {k : κ} {v : α} {e : κ × α} (h : e ∈ putE es k v) : e = (k, v) ∨ e ∈ es := by
  unfold putE at h
  split at h
  · obtain ⟨x, hx, rfl⟩ := List.mem_map.mp h
    split
    · rename_i q
      rw [q]
      exact .inl rfl
    · exact .inr hx
  · rcases List.mem_append.mp h with h | h
    · exact .inr h
    · exact .inl (List.mem_singleton.mp h)
end
theorem can_addW {es : WE} (h : Can es) (k : Place × Nat) (d : Int) : Can (addW es k d) ∧ ∀ k', sm (addW es k d) k' = sm es k' + ind k' k * d := by
  have hcan : Can (addW es k d) := by
    unfold addW
    split
    · rename_i hz
      refine ⟨nodup_putE h.nd _ _, fun e he => ?_⟩
      rcases mem_put he with rfl | he
      · exact hz
      · exact h.nz e he
    · split
      · exact ⟨List.Nodup.sublist (List.Sublist.map _ List.filter_sublist) h.nd, fun e he => h.nz e (List.mem_filter.mp he).1⟩
      · exact h
  refine ⟨hcan, fun k' => ?_⟩
  rw [sm_val hcan.nd, sm_val h.nd]
  unfold addW ind
  by_cases q : k = k'
  · subst q
    rw [if_pos rfl]
    split
    · rw [getE_put, if_pos rfl]
      simp
    · rename_i hz
      split
      · rw [getE_del, if_pos rfl]
        simp at hz ⊢
        omega
      · rename_i hn
        have : getE es k = none := by simpa using hn
        rw [this] at hz ⊢
        simp at hz ⊢
        omega
  · rw [if_neg q]
    split
    · rw [getE_put, if_neg q]
      omega
    · split
      · rw [getE_del, if_neg q]
        omega
      · omega
/-- streets as pairs of a key and a number -/
def kl (ss : List St3) : WE := ss.map fun s => ((s.1, s.2.1), s.2.2)
def redK (R : List Place) (x : Place × Nat) : Place × Nat := (redR R x.1, x.2)
theorem can_mkW (R : List Place) (ss : List St3) : Can (mkW R ss) ∧ ∀ k, sm (mkW R ss) k = sm (pushE (redK R) (kl ss)) k := by
  have key : ∀ (ss : List St3) (es : WE), Can es → Can (ss.foldl (fun es s => addW es (redR R s.1, s.2.1) s.2.2) es) ∧ ∀ k, sm (ss.foldl (fun es s => addW es (redR R s.1, s.2.1) s.2.2) es) k = sm es k + sm (pushE (redK R) (kl ss)) k := by
    intro ss
    induction ss with
    | nil =>
      intro es h
      exact ⟨h, fun k => by show sm es k = sm es k + 0; omega⟩
    | cons s ss ih =>
      intro es h
      obtain ⟨h1, h2⟩ := can_addW h (redR R s.1, s.2.1) s.2.2
      obtain ⟨h3, h4⟩ := ih _ h1
      refine ⟨h3, fun k => ?_⟩
      rw [List.foldl_cons, h4, h2]
      have : sm (pushE (redK R) (kl (s :: ss))) k = ind k (redR R s.1, s.2.1) * s.2.2 + sm (pushE (redK R) (kl ss)) k := rfl
      rw [this]
      omega
  obtain ⟨h1, h2⟩ := key ss [] ⟨.nil, fun e he => nomatch he⟩
  refine ⟨h1, fun k => ?_⟩
  have := h2 k
  have h0 : sm ([] : WE) k = 0 := rfl
  rw [h0, Int.zero_add] at this
  exact this
theorem putW_sm (R : List Place) (ss : List St3) (k : Place × Nat) : sm (putW R ss) k = sm (pushE (redK R) (kl ss)) k := by
  have key : ∀ (ss : List St3) (es : WE), (es.map (·.1)).Nodup → ∀ k, sm (ss.foldl (putS R) es) k = sm es k + sm (pushE (redK R) (kl ss)) k := by
    intro ss
    induction ss with
    | nil => exact fun es _ k => by show sm es k = sm es k + 0; omega
    | cons s ss ih =>
      intro es h k
      have h1 := nodup_putE h (redR R s.1, s.2.1) ((getE es (redR R s.1, s.2.1)).getD 0 + s.2.2)
      have hi := ih (putS R es s) h1 k
      rw [List.foldl_cons, hi]
      have h2 : sm (putS R es s) k = sm es k + ind k (redR R s.1, s.2.1) * s.2.2 := by
        unfold putS
        rw [sm_val h1, sm_val h, getE_put]
        unfold ind
        split
        · rename_i q
          rw [← q]
          simp
        · omega
      have : sm (pushE (redK R) (kl (s :: ss))) k = ind k (redR R s.1, s.2.1) * s.2.2 + sm (pushE (redK R) (kl ss)) k := rfl
      rw [h2, this]
      omega
  have := key ss [] .nil k
  have h0 : sm ([] : WE) k = 0 := rfl
  rw [h0, Int.zero_add] at this
  exact this
theorem sm_filter0 (es : WE) (k : Place × Nat) : sm (es.filter fun e => e.2 != 0) k = sm es k := by
  induction es with
  | nil => rfl
  | cons e es ih =>
    have h1 : sm (e :: es) k = ind k e.1 * e.2 + sm es k := rfl
    rw [List.filter_cons, h1]
    split
    · have h2 : sm (e :: es.filter fun e => e.2 != 0) k = ind k e.1 * e.2 + sm (es.filter fun e => e.2 != 0) k := rfl
      rw [h2, ih]
    · rename_i h
      have : e.2 = 0 := by simpa using h
      rw [ih, this]
      omega
theorem can_lw (R : List Place) (ss : List St3) : Can (lwOf R ss) ∧ ∀ k, sm (lwOf R ss) k = sm (pushE (redK R) (kl ss)) k := by
  refine ⟨⟨nodup_lwOf R ss, fun e he => ?_⟩, fun k => ?_⟩
  · rw [lwOf_eq] at he
    have := (List.mem_filter.mp he).2
    simpa using this
  · rw [lwOf_eq, sm_filter0, putW_sm]
theorem kl_stS (es : WE) : (kl (stS es)).Perm es := by
  have h := (stS_perm es).map fun s : St3 => ((s.1, s.2.1), s.2.2)
  rw [List.map_map] at h
  have e : es.map ((fun s : St3 => ((s.1, s.2.1), s.2.2)) ∘ ofE) = es := by
    rw [show ((fun s : St3 => ((s.1, s.2.1), s.2.2)) ∘ ofE) = id from rfl, List.map_id]
  rw [e] at h
  exact h
theorem stS_iff {es fs : WE} (h1 : Can es) (h2 : Can fs) : stS es = stS fs ↔ ∀ k, sm es k = sm fs k := by
  constructor
  · intro h k
    rw [← sm_perm (kl_stS es), ← sm_perm (kl_stS fs), h]
  · intro h
    exact isort_of_perm sLe_anti sLe_total ((can_perm h1 h2 h).map ofE)
end K35
/-! text M2 -/
set_option Elab.async false
set_option linter.all false
set_option maxRecDepth 100000
set_option maxHeartbeats 4000000
/-! plain law 2: places, walks of words -/
namespace K35
open PySem PySem.Spec PyProof.Rows L2
theorem place_ext {p q : Place} {n : Nat} (h1 : p.length = n) (h2 : q.length = n) (h : ∀ i, i < n → p.getD i 0 = q.getD i 0) : p = q := by
  refine List.ext_getElem (h1.trans h2.symm) fun i a b => ?_
  have := h i (by omega)
  rw [List.getD_eq_getElem?_getD, List.getD_eq_getElem?_getD, List.getElem?_eq_getElem a, List.getElem?_eq_getElem b] at this
  exact this
theorem mul_at (k : Int) (p : Place) (i : Nat) : (mulP k p).getD i 0 = k * p.getD i 0 := by
  unfold mulP
  rw [List.getD_eq_getElem?_getD, List.getD_eq_getElem?_getD, List.getElem?_map]
  cases p[i]? <;> simp
theorem zero_at (n i : Nat) : (zeroP n).getD i 0 = 0 := by
  unfold zeroP
  rw [List.getD_eq_getElem?_getD, List.getElem?_replicate]
  split <;> rfl
theorem stp_at {p : Place} {i : Nat} (d : Int) (h : i < p.length) (j : Nat) : (stp p i d).getD j 0 = p.getD j 0 + (if j = i then d else 0) := by
  unfold stp
  rw [List.getD_eq_getElem?_getD, List.getD_eq_getElem?_getD]
  by_cases e : j = i
  · subst e
    rw [List.getElem?_append_right (by simp; omega)]
    simp [List.getD_eq_getElem?_getD, Nat.min_eq_left (show j ≤ p.length by omega)]
  · rw [if_neg e]
    by_cases h2 : j < i
    · rw [List.getElem?_append_left (by simp; omega), List.getElem?_take_of_lt h2]
      simp
    · rw [List.getElem?_append_right (by simp; omega)]
      simp only [List.length_take, Nat.min_eq_left (show i ≤ p.length by omega)]
      obtain ⟨k, rfl⟩ : ∃ k, j = i + 1 + k := ⟨j - i - 1, by omega⟩
      rw [show i + 1 + k - i = k + 1 by omega, List.getElem?_cons_succ, List.getElem?_drop]
      simp
theorem addP_l {p q : Place} {n : Nat} (h1 : p.length = n) (h2 : q.length = n) : (addP p q).length = n := by rw [addP_len _ _ (by omega)]; exact h1
theorem subP_l {p q : Place} {n : Nat} (h1 : p.length = n) (h2 : q.length = n) : (subP p q).length = n := by rw [subP_len _ _ (by omega)]; exact h1
theorem mulP_l {p : Place} {n : Nat} (k : Int) (h1 : p.length = n) : (mulP k p).length = n := by rw [mulP_len]; exact h1
theorem stp_l {p : Place} {n i : Nat} (d : Int) (h1 : p.length = n) (h : i < n) : (stp p i d).length = n := by rw [stp_len _ _ _ (by omega)]; exact h1
theorem add_zero {p : Place} {n : Nat} (h : p.length = n) : addP p (zeroP n) = p :=
  place_ext (addP_l h (zeroP_len n)) h fun i hi => by rw [add_at (by omega) (by rw [zeroP_len]; exact hi), zero_at]; omega
theorem zero_add {p : Place} {n : Nat} (h : p.length = n) : addP (zeroP n) p = p :=
  place_ext (addP_l (zeroP_len n) h) h fun i hi => by rw [add_at (by rw [zeroP_len]; exact hi) (by omega), zero_at]; omega
theorem add_assocP {p q r : Place} {n : Nat} (h1 : p.length = n) (h2 : q.length = n) (h3 : r.length = n) : addP (addP p q) r = addP p (addP q r) :=
  place_ext (addP_l (addP_l h1 h2) h3) (addP_l h1 (addP_l h2 h3)) fun i hi => by
    rw [add_at (by rw [addP_l h1 h2]; exact hi) (by omega), add_at (by omega) (by omega), add_at (by omega) (by rw [addP_l h2 h3]; exact hi), add_at (by omega) (by omega)]
    omega
theorem add_commP {p q : Place} {n : Nat} (h1 : p.length = n) (h2 : q.length = n) : addP p q = addP q p :=
  place_ext (addP_l h1 h2) (addP_l h2 h1) fun i hi => by
    rw [add_at (by omega) (by omega), add_at (by omega) (by omega)]
    omega
theorem sub_addP {p q : Place} {n : Nat} (h1 : p.length = n) (h2 : q.length = n) : addP (subP p q) q = p :=
  place_ext (addP_l (subP_l h1 h2) h2) h1 fun i hi => by
    rw [add_at (by rw [subP_l h1 h2]; exact hi) (by omega), sub_at (by omega) (by omega)]
    omega
theorem add_subP {p q : Place} {n : Nat} (h1 : p.length = n) (h2 : q.length = n) : subP (addP p q) q = p :=
  place_ext (subP_l (addP_l h1 h2) h2) h1 fun i hi => by
    rw [sub_at (by rw [addP_l h1 h2]; exact hi) (by omega), add_at (by omega) (by omega)]
    omega
theorem stp_add {p d : Place} {n i : Nat} (x : Int) (h1 : p.length = n) (h2 : d.length = n) (hi : i < n) : stp (addP p d) i x = addP (stp p i x) d :=
  place_ext (stp_l x (addP_l h1 h2) hi) (addP_l (stp_l x h1 hi) h2) fun j hj => by
    rw [stp_at _ (by rw [addP_l h1 h2]; exact hi), add_at (by omega) (by omega), add_at (by rw [stp_l x h1 hi]; exact hj) (by omega), stp_at _ (by omega)]
    omega
theorem stp_stp {p : Place} {n i : Nat} (x : Int) (h1 : p.length = n) (hi : i < n) : stp (stp p i x) i (-x) = p :=
  place_ext (stp_l _ (stp_l x h1 hi) hi) h1 fun j hj => by
    rw [stp_at _ (by rw [stp_l x h1 hi]; exact hi), stp_at _ (by omega)]
    split <;> omega
/-! where a word ends -/
def sgn (b : Bool) : Int := if b = true then 1 else -1
def endP (p : Place) (w : Wd) : Place := w.foldl (fun p g => stp p g.1 (sgn g.2)) p
theorem endP_l {n : Nat} : ∀ {w : Wd} {p : Place}, WF n w → p.length = n → (endP p w).length = n
  | [], _, _, h => h
  | g :: w, p, hw, h => endP_l (w := w) (fun x hx => hw x (List.mem_cons_of_mem _ hx)) (stp_l _ h (hw g (List.mem_cons_self ..)))
theorem endP_app (p : Place) (u v : Wd) : endP p (u ++ v) = endP (endP p u) v := List.foldl_append ..
theorem counts_at {n i : Nat} (w : Wd) (hi : i < n) : (counts n w).getD i 0 = ((w.count (i, true) : Nat) : Int) - ((w.count (i, false) : Nat) : Int) := by
  unfold counts
  rw [List.getD_eq_getElem?_getD, List.getElem?_map, List.getElem?_range hi]
  rfl
theorem counts_nil (n : Nat) : counts n [] = zeroP n := place_ext (counts_len _ _) (zeroP_len n) fun i hi => by
  rw [counts_at _ hi, zero_at]
  rfl
theorem counts_app {n : Nat} (u v : Wd) : counts n (u ++ v) = addP (counts n u) (counts n v) :=
  place_ext (counts_len _ _) (addP_l (counts_len _ _) (counts_len _ _)) fun i hi => by
    rw [counts_at _ hi, add_at (by rw [counts_len]; exact hi) (by rw [counts_len]; exact hi), counts_at _ hi, counts_at _ hi, List.count_append, List.count_append]
    omega
theorem stp_counts {n : Nat} {p : Place} {g : Sg} (h : p.length = n) (hg : g.1 < n) : stp p g.1 (sgn g.2) = addP p (counts n [g]) :=
  place_ext (stp_l _ h hg) (addP_l h (counts_len _ _)) fun j hj => by
    rw [stp_at _ (by omega), add_at (by omega) (by rw [counts_len]; exact hj), counts_at _ hj]
    obtain ⟨i, b⟩ := g
    by_cases e : j = i
    · subst e
      cases b <;> simp [sgn, List.count_cons]
    · have e2 : ¬ i = j := fun q => e q.symm
      cases b <;> simp [sgn, List.count_cons, e, e2]
theorem endP_eq {n : Nat} : ∀ {w : Wd} {p : Place}, WF n w → p.length = n → endP p w = addP p (counts n w)
  | [], p, _, h => by rw [counts_nil, add_zero h]; rfl
  | g :: w, p, hw, h => by
    have hg := hw g (List.mem_cons_self ..)
    have ih := endP_eq (w := w) (p := stp p g.1 (sgn g.2)) (fun x hx => hw x (List.mem_cons_of_mem _ hx)) (stp_l _ h hg)
    show endP (stp p g.1 (sgn g.2)) w = _
    rw [ih, stp_counts h hg, add_assocP h (counts_len _ _) (counts_len _ _), ← counts_app]
    rfl
def hdS (p : Place) (g : Sg) : St3 := if g.2 = true then (p, g.1, 1) else (stp p g.1 (-1), g.1, -1)
theorem streets_cons (p : Place) (g : Sg) (w : Wd) : streetsOf p (g :: w) = hdS p g :: streetsOf (stp p g.1 (sgn g.2)) w := by
  obtain ⟨i, b⟩ := g
  cases b <;> rfl
theorem streets_app (p : Place) (u v : Wd) : streetsOf p (u ++ v) = streetsOf p u ++ streetsOf (endP p u) v := by
  induction u generalizing p with
  | nil => rfl
  | cons g u ih =>
    rw [List.cons_append, streets_cons, streets_cons, ih]
    rfl
def shS (d : Place) (ss : List St3) : List St3 := ss.map fun s => (addP s.1 d, s.2.1, s.2.2)
theorem streets_shift {n : Nat} {d : Place} (hd : d.length = n) : ∀ {w : Wd} {p : Place}, WF n w → p.length = n → streetsOf (addP p d) w = shS d (streetsOf p w)
  | [], _, _, _ => rfl
  | g :: w, p, hw, h => by
    have hg := hw g (List.mem_cons_self ..)
    have hw' : WF n w := fun x hx => hw x (List.mem_cons_of_mem _ hx)
    unfold streetsOf
    rw [stp_add _ h hd hg, stp_add _ h hd hg, streets_shift hd hw' (stp_l _ h hg), streets_shift hd hw' (stp_l _ h hg)]
    split <;> rfl
def shK (d : Place) (x : Place × Nat) : Place × Nat := (addP x.1 d, x.2)
theorem kl_app (a b : List St3) : kl (a ++ b) = kl a ++ kl b := List.map_append
theorem kl_sh (d : Place) (ss : List St3) : kl (shS d ss) = pushE (shK d) (kl ss) := by
  unfold kl shS pushE
  rw [List.map_map, List.map_map]
  rfl
/-- the linear sum over the walk of a word -/
def fw (φ : Place × Nat → Int) (p : Place) (w : Wd) : Int := lin φ (kl (streetsOf p w))
theorem fw_app (φ : Place × Nat → Int) (p : Place) (u v : Wd) : fw φ p (u ++ v) = fw φ p u + fw φ (endP p u) v := by
  unfold fw
  rw [streets_app, kl_app, lin_app]
theorem fw_sh {n : Nat} {d p : Place} {w : Wd} (φ : Place × Nat → Int) (hd : d.length = n) (hw : WF n w) (h : p.length = n) : fw φ (addP p d) w = fw (fun x => φ (shK d x)) p w := by
  unfold fw
  rw [streets_shift hd hw h, kl_sh, lin_push]
theorem inv_cons (g : Sg) (w : Wd) : inv (g :: w) = inv w ++ [flip g] := by simp [inv]
theorem fw_cons (φ : Place × Nat → Int) (p : Place) (g : Sg) (w : Wd) : fw φ p (g :: w) = fw φ p [g] + fw φ (stp p g.1 (sgn g.2)) w := fw_app φ p [g] w
theorem endP_inv {n : Nat} : ∀ {w : Wd} {p : Place}, WF n w → p.length = n → endP (endP p w) (inv w) = p
  | [], _, _, _ => rfl
  | g :: w, p, hw, h => by
    have hg := hw g (List.mem_cons_self ..)
    have hw' : WF n w := fun x hx => hw x (List.mem_cons_of_mem _ hx)
    rw [inv_cons, endP_app]
    show endP (endP (endP (stp p g.1 (sgn g.2)) w) (inv w)) [flip g] = p
    rw [endP_inv hw' (stp_l _ h hg)]
    show stp (stp p g.1 (sgn g.2)) g.1 (sgn (!g.2)) = p
    have : sgn (!g.2) = - sgn g.2 := by cases g.2 <;> rfl
    rw [this, stp_stp _ h hg]
theorem fw_inv {n : Nat} (φ : Place × Nat → Int) : ∀ {w : Wd} {p : Place}, WF n w → p.length = n → fw φ (endP p w) (inv w) = - fw φ p w
  | [], _, _, _ => by simp [fw, streetsOf, kl, lin, inv]
  | g :: w, p, hw, h => by
    have hg := hw g (List.mem_cons_self ..)
    have hw' : WF n w := fun x hx => hw x (List.mem_cons_of_mem _ hx)
    rw [inv_cons, fw_app, fw_cons φ p g w]
    show fw φ (endP (stp p g.1 (sgn g.2)) w) (inv w) + fw φ (endP (endP (stp p g.1 (sgn g.2)) w) (inv w)) [flip g] = _
    rw [fw_inv φ hw' (stp_l _ h hg), endP_inv hw' (stp_l _ h hg)]
    have : fw φ (stp p g.1 (sgn g.2)) [flip g] = - fw φ p [g] := by
      obtain ⟨i, b⟩ := g
      have h2 := stp_stp (-1) h hg
      have h3 := stp_stp 1 h hg
      cases b
      · simp [fw, streetsOf, kl, lin, flip, sgn]
      · simp only [fw, streetsOf, kl, lin, flip, sgn, List.map_cons, List.map_nil]
        simp
        rw [h3]
        simp [lin]
    rw [this]
    omega
/-- the walk of a word that is turned -/
theorem fw_turn {n : Nat} (φ : Place × Nat → Int) {t u : Wd} (ht : WF n t) (hu : WF n u) : fw φ (zeroP n) (t ++ u ++ inv t) = fw φ (zeroP n) t + fw φ (counts n t) u - fw φ (counts n u) t := by
  have hz := zeroP_len n
  have e1 : endP (zeroP n) t = counts n t := by rw [endP_eq ht hz, zero_add (counts_len _ _)]
  have e2 : endP (zeroP n) (t ++ u) = endP (counts n u) t := by
    rw [endP_eq (wf_app ht hu) hz, endP_eq ht (counts_len _ _), counts_app, zero_add (addP_l (counts_len _ _) (counts_len _ _)), add_commP (counts_len _ _) (counts_len _ _)]
  rw [fw_app, fw_app, e1, e2, fw_inv φ ht (counts_len _ _)]
  omega
theorem push_nil (l : WE) : pushE (redK []) l = l := by
  unfold pushE
  have : (fun e : (Place × Nat) × Int => (redK [] e.1, e.2)) = fun e => e := rfl
  rw [this, List.map_id']
theorem turns_iff {n : Nat} {t u v : Wd} : turnsM n t u v = true ↔ ∀ k, fw (ind k) (zeroP n) (t ++ u ++ inv t) = fw (ind k) (zeroP n) v := by
  unfold turnsM
  obtain ⟨a1, a2⟩ := can_lw [] (streetsOf (zeroP n) (t ++ u ++ inv t))
  obtain ⟨b1, b2⟩ := can_lw [] (streetsOf (zeroP n) v)
  rw [eqE_iff a1 b1]
  constructor
  · intro h k
    have := h k
    rw [a2, b2, push_nil, push_nil] at this
    exact this
  · intro h k
    rw [a2, b2, push_nil, push_nil]
    exact h k
end K35
/-! text M3 -/
set_option Elab.async false
set_option linter.all false
set_option maxRecDepth 100000
set_option maxHeartbeats 4000000
/-! plain law 3: places by their counts; a shift is found -/
namespace K35
open PySem PySem.Spec PyProof.Rows L2
theorem nrm_cases (c : Place) : (isZ c = true ∧ nrmR c = []) ∨ (isZ c = false ∧ nrmR c = [nrm1 c]) := by
  cases h : isZ c with
  | true => exact .inl ⟨rfl, if_pos h⟩
  | false => exact .inr ⟨rfl, if_neg (by intro q; have : isZ c = true := q; rw [h] at this; cases this)⟩
theorem nrm1_at (c : Place) : ∃ e : Int, (e = 1 ∨ e = -1) ∧ ∀ i, (nrm1 c).getD i 0 = e * c.getD i 0 := by
  unfold nrm1
  split
  · exact ⟨1, .inl rfl, fun i => by omega⟩
  · exact ⟨-1, .inr rfl, fun i => by rw [mul_at]⟩
theorem zero_of {c : Place} {n : Nat} (hc : c.length = n) (h : isZ c = true) : c = zeroP n := by
  rw [isZ_iff hc] at h
  exact of_decide_eq_true h
theorem mul_zero (n : Nat) (k : Int) : mulP k (zeroP n) = zeroP n := place_ext (mulP_l k (zeroP_len n)) (zeroP_len n) fun i hi => by rw [mul_at, zero_at]; omega
theorem red_mul {c p : Place} {n : Nat} (hc : c.length = n) (hp : p.length = n) : ∃ k, redR (nrmR c) p = addP p (mulP k c) := by
  rcases nrm_cases c with ⟨h, e⟩ | ⟨h, e⟩
  · refine ⟨0, ?_⟩
    rw [e, zero_of hc h, mul_zero, add_zero hp]
    rfl
  · obtain ⟨s, hs, hn⟩ := nrm1_at c
    have hl : (nrm1 c).length = n := by rw [nrm1_len]; exact hc
    refine ⟨-((p.getD (leadP (nrm1 c)) 0).fdiv (lead (nrm1 c))) * s, ?_⟩
    rw [e]
    show red1 p (nrm1 c) = _
    unfold red1
    generalize (p.getD (leadP (nrm1 c)) 0).fdiv (lead (nrm1 c)) = q
    refine place_ext (subP_l hp (mulP_l q hl)) (addP_l hp (mulP_l _ hc)) fun i hi => ?_
    rw [sub_at (by omega) (by rw [mulP_l q hl]; exact hi), add_at (by omega) (by rw [mulP_l _ hc]; exact hi), mul_at, mul_at, hn, Int.mul_assoc, Int.neg_mul]
    omega
theorem red_add {c p : Place} {n : Nat} (hc : c.length = n) (hp : p.length = n) (k : Int) : redR (nrmR c) (addP p (mulP k c)) = redR (nrmR c) p := by
  rcases nrm_cases c with ⟨h, e⟩ | ⟨h, e⟩
  · rw [zero_of hc h, mul_zero, add_zero hp]
  · obtain ⟨s, hs, hn⟩ := nrm1_at c
    have hl : (nrm1 c).length = n := by rw [nrm1_len]; exact hc
    have hz : isZ (nrm1 c) = false := by rw [isZ_nrm1]; exact h
    have hlt := lead_lt hz
    have hne := lead_ne hz
    have hac : (addP p (mulP k c)).length = n := addP_l hp (mulP_l _ hc)
    rw [e]
    show red1 (addP p (mulP k c)) (nrm1 c) = red1 p (nrm1 c)
    unfold red1
    have hd : lead (nrm1 c) = (nrm1 c).getD (leadP (nrm1 c)) 0 := rfl
    have hq : (addP p (mulP k c)).getD (leadP (nrm1 c)) 0 = p.getD (leadP (nrm1 c)) 0 + (k * s) * lead (nrm1 c) := by
      rw [add_at (by omega) (by rw [mulP_l _ hc]; omega), mul_at, hd, hn]
      have hss : s * s = 1 := by rcases hs with rfl | rfl <;> rfl
      have : k * s * (s * c.getD (leadP (nrm1 c)) 0) = k * (s * s) * c.getD (leadP (nrm1 c)) 0 := by
        rw [Int.mul_assoc, Int.mul_assoc, Int.mul_assoc]
      rw [this, hss, Int.mul_one]
    rw [hq, Int.add_mul_fdiv_right _ _ hne]
    generalize (p.getD (leadP (nrm1 c)) 0).fdiv (lead (nrm1 c)) = q
    refine place_ext (subP_l hac (mulP_l _ hl)) (subP_l hp (mulP_l _ hl)) fun i hi => ?_
    rw [sub_at (by omega) (by rw [mulP_l _ hl]; exact hi), sub_at (by omega) (by rw [mulP_l _ hl]; exact hi), add_at (by omega) (by rw [mulP_l _ hc]; exact hi), mul_at, mul_at, mul_at, hn, Int.add_mul]
    have hss : s * s = 1 := by rcases hs with rfl | rfl <;> rfl
    have : k * s * (s * c.getD i 0) = k * c.getD i 0 := by
      rw [Int.mul_assoc, ← Int.mul_assoc s, hss, Int.one_mul]
    omega
theorem redR_l {c p : Place} {n : Nat} (hc : c.length = n) (hp : p.length = n) : (redR (nrmR c) p).length = n := by
  obtain ⟨k, e⟩ := red_mul hc hp
  rw [e]
  exact addP_l hp (mulP_l _ hc)
/-- red(red p + d) = red(p + d) -/
theorem red_red {c p d : Place} {n : Nat} (hc : c.length = n) (hp : p.length = n) (hd : d.length = n) : redR (nrmR c) (addP (redR (nrmR c) p) d) = redR (nrmR c) (addP p d) := by
  obtain ⟨k, e⟩ := red_mul hc hp
  rw [e]
  have : addP (addP p (mulP k c)) d = addP (addP p d) (mulP k c) := by
    rw [add_assocP hp (mulP_l _ hc) hd, add_commP (mulP_l _ hc) hd, ← add_assocP hp hd (mulP_l _ hc)]
  rw [this, red_add hc (addP_l hp hd)]
theorem red_inj {c p q d : Place} {n : Nat} (hc : c.length = n) (hp : p.length = n) (hq : q.length = n) (hd : d.length = n) (h : redR (nrmR c) (addP p d) = redR (nrmR c) (addP q d)) : redR (nrmR c) p = redR (nrmR c) q := by
  obtain ⟨k, e⟩ := red_mul hc (addP_l hp hd)
  obtain ⟨m, e2⟩ := red_mul hc (addP_l hq hd)
  rw [e, e2] at h
  have : p = addP q (mulP (m - k) c) := by
    refine place_ext hp (addP_l hq (mulP_l _ hc)) fun i hi => ?_
    have := congrArg (fun z => z.getD i 0) h
    have hk := mulP_l k hc
    have hm := mulP_l m hc
    have h1 := addP_l hp hd
    have h2 := addP_l hq hd
    rw [add_at (by omega) (by omega), add_at (by omega) (by omega), add_at (by omega) (by omega), add_at (by omega) (by omega), mul_at, mul_at] at this
    rw [add_at (by omega) (by rw [mulP_l _ hc]; exact hi), mul_at, Int.sub_mul]
    omega
  rw [this, red_add hc hq]
theorem red_idem {c p : Place} {n : Nat} (hc : c.length = n) (hp : p.length = n) : redR (nrmR c) (redR (nrmR c) p) = redR (nrmR c) p := by
  obtain ⟨k, e⟩ := red_mul hc hp
  conv => lhs; rw [e]
  exact red_add hc hp k
theorem posR_nrm {c : Place} : PosR (nrmR c) := by
  rcases nrm_cases c with ⟨h, e⟩ | ⟨h, e⟩
  · rw [e]
    exact fun r hr => nomatch hr
  · rw [e]
    intro r hr
    rw [List.mem_singleton.mp hr]
    have hne := lead_ne h
    unfold nrm1
    split
    · assumption
    · rename_i hg
      have hlp : leadP (mulP (-1) c) = leadP c := by
        unfold leadP mulP
        rw [List.findIdx_map]
        congr 1
        funext x
        show ((-1 * x) != 0) = (x != 0)
        by_cases hx : x = 0
        · subst hx; rfl
        · have h1 : (x != 0) = true := by simpa using hx
          have h2 : ((-1 * x) != 0) = true := by simp; omega
          rw [h1, h2]
      show 0 < lead (mulP (-1) c)
      unfold lead at hne hg ⊢
      rw [hlp, mul_at]
      omega
/-- keys of streets whose places have a length -/
def KL (n : Nat) (l : WE) : Prop := ∀ e ∈ l, e.1.1.length = n
theorem streets_l {n : Nat} : ∀ {w : Wd} {p : Place}, WF n w → p.length = n → ∀ s ∈ streetsOf p w, s.1.length = n ∧ s.2.1 < n
  | [], _, _, _, s, hs => nomatch hs
  | g :: w, p, hw, h, s, hs => by
    have hg := hw g (List.mem_cons_self ..)
    rw [streets_cons] at hs
    rcases List.mem_cons.mp hs with rfl | hs
    · unfold hdS
      split
      · exact ⟨h, hg⟩
      · exact ⟨stp_l _ h hg, hg⟩
    · exact streets_l (w := w) (fun x hx => hw x (List.mem_cons_of_mem _ hx)) (stp_l _ h hg) s hs
theorem kl_l {n : Nat} {w : Wd} {p : Place} (hw : WF n w) (h : p.length = n) : KL n (kl (streetsOf p w)) := fun e he => by
  obtain ⟨s, hs, rfl⟩ := List.mem_map.mp he
  exact (streets_l hw h s hs).1
/-- the walk of a word, by its counts -/
def U (n : Nat) (u : Wd) : WE := kl (streetsOf (zeroP n) u)
/-- the sums of a walk that is moved by d, by c -/
def ms (c d : Place) (l : WE) (k : Place × Nat) : Int := lin (fun x => ind k (redK (nrmR c) (shK d x))) l
theorem ms_eq (c d : Place) (l : WE) (k : Place × Nat) : ms c d l k = sm (pushE (redK (nrmR c)) (pushE (shK d) l)) k := by
  show _ = lin _ _
  rw [lin_push, lin_push]
  rfl
theorem ms_red {c d : Place} {n : Nat} {l : WE} (hc : c.length = n) (hd : d.length = n) (hl : KL n l) (k : Place × Nat) : ms c d (pushE (redK (nrmR c)) l) k = ms c d l k := by
  unfold ms
  rw [lin_push]
  refine lin_congr fun e he => ?_
  have : redK (nrmR c) (shK d (redK (nrmR c) e.1)) = redK (nrmR c) (shK d e.1) := by
    show ((redR (nrmR c) (addP (redR (nrmR c) e.1.1) d), e.1.2) : Place × Nat) = (redR (nrmR c) (addP e.1.1 d), e.1.2)
    rw [red_red hc (hl e he) hd]
  rw [this]
theorem ms_zero {c : Place} {n : Nat} {l : WE} (hl : KL n l) (k : Place × Nat) : ms c (zeroP n) l k = sm (pushE (redK (nrmR c)) l) k := by
  show _ = lin _ _
  rw [lin_push]
  refine lin_congr fun e he => ?_
  have : shK (zeroP n) e.1 = e.1 := by
    show ((addP e.1.1 (zeroP n), e.1.2) : Place × Nat) = e.1
    rw [add_zero (hl e he)]
  rw [this]
theorem rolled_can (n : Nat) (u : Wd) : Can (rolledW n u) ∧ ∀ k, sm (rolledW n u) k = sm (pushE (redK (nrmR (counts n u))) (U n u)) k := can_mkW _ _
theorem moved_can (R : List Place) (es : WE) (d : Place) : Can (movedW R es d) ∧ ∀ k, sm (movedW R es d) k = lin (fun x => ind k (redK R (shK d x))) es := by
  obtain ⟨h1, h2⟩ := can_mkW R ((stS es).map fun s => (addP s.1 d, s.2.1, s.2.2))
  refine ⟨h1, fun k => ?_⟩
  have e : kl ((stS es).map fun s => (addP s.1 d, s.2.1, s.2.2)) = pushE (shK d) (kl (stS es)) := kl_sh d (stS es)
  rw [show movedW R es d = mkW R ((stS es).map fun s => (addP s.1 d, s.2.1, s.2.2)) from rfl, h2, e]
  show lin _ _ = _
  rw [lin_push, lin_push, lin_perm _ (kl_stS es)]
theorem push_l {c : Place} {n : Nat} (hc : c.length = n) {l : WE} (hl : KL n l) : KL n (pushE (redK (nrmR c)) l) := fun e he => by
  obtain ⟨x, hx, rfl⟩ := List.mem_map.mp he
  exact redR_l hc (hl x hx)
theorem mem_key {κ : Type} [DecidableEq κ] {es : List (κ × Int)} {k : κ} (h : sm es k ≠ 0) : ∃ e ∈ es, e.1 = k := by
  refine Classical.byContradiction fun q => h (lin_zero fun e he => if_neg fun z => q ⟨e, he, z⟩)
/-- with the same counts, and walks alike but for a shift, turner finds a word -/
theorem shift_found {n : Nat} {u v : Wd} {d : Place} (hu : WF n u) (hv : WF n v) (hcc : counts n u = counts n v) (hd : d.length = n) (h : ∀ k, ms (counts n u) d (U n u) k = sm (pushE (redK (nrmR (counts n u))) (U n v)) k) : turnerM n u v ≠ none := by
  have hc : (counts n u).length = n := counts_len n u
  have hul : KL n (U n u) := kl_l hu (zeroP_len n)
  obtain ⟨l1, l2⟩ := rolled_can n u
  obtain ⟨r1, r2⟩ := rolled_can n v
  rw [← hcc] at r2
  rw [turnerM_eq, if_neg (by simpa using hcc)]
  have hmr : ∀ k, lin (fun x => ind k (redK (nrmR (counts n u)) (shK d x))) (rolledW n u) = sm (rolledW n v) k := fun k => by
    rw [r2, ← h k, ← ms_red hc hd hul k]
    exact lin_ext _ l2
  by_cases hl : rolledW n u = []
  · rw [if_pos hl, if_pos]
    · simp
    · rw [can_nil r1]
      intro k
      rw [← hmr k, hl]
      rfl
  · rw [if_neg hl]
    have hlen : (stS (rolledW n u)).length = (rolledW n u).length := stS_len _
    cases hs : stS (rolledW n u) with
    | nil =>
      rw [hs] at hlen
      exact absurd (List.eq_nil_of_length_eq_zero hlen.symm) hl
    | cons s0 sr =>
      have hs0 : s0 ∈ stS (rolledW n u) := by rw [hs]; exact List.mem_cons_self ..
      obtain ⟨g1, g2⟩ := (mem_can l1).mp (mem_stS.mp hs0)
      -- the first street lies where a street of the walk is, by the counts
      obtain ⟨e0, he0, hk0⟩ := mem_key (es := pushE (redK (nrmR (counts n u))) (U n u)) (k := (s0.1, s0.2.1)) (by rw [← l2, g2]; exact g1)
      obtain ⟨x0, hx0, rfl⟩ := List.mem_map.mp he0
      have hk0 : redK (nrmR (counts n u)) x0.1 = (s0.1, s0.2.1) := hk0
      have hp0 := hul x0 hx0
      have hP : s0.1 = redR (nrmR (counts n u)) x0.1.1 := (congrArg Prod.fst hk0).symm
      have hPl : s0.1.length = n := by rw [hP]; exact redR_l hc hp0
      -- there
      have hthere : sm (rolledW n v) (redR (nrmR (counts n u)) (addP s0.1 d), s0.2.1) = s0.2.2 := by
        rw [← hmr, ← g2]
        refine (lin_ext _ l2).trans (Eq.trans ?_ (l2 (s0.1, s0.2.1)).symm)
        refine lin_congr fun e he => ?_
        obtain ⟨x, hx, rfl⟩ := List.mem_map.mp he
        have hxl := hul x hx
        show ind _ (redK _ (shK d (redK _ x.1))) = ind _ (redK _ x.1)
        have e1 : redK (nrmR (counts n u)) (shK d (redK (nrmR (counts n u)) x.1)) = redK (nrmR (counts n u)) (shK d x.1) := by
          show ((redR (nrmR (counts n u)) (addP (redR (nrmR (counts n u)) x.1.1) d), x.1.2) : Place × Nat) = (redR (nrmR (counts n u)) (addP x.1.1 d), x.1.2)
          rw [red_red hc hxl hd]
        have e2 : redR (nrmR (counts n u)) (addP s0.1 d) = redR (nrmR (counts n u)) (addP x0.1.1 d) := by rw [hP, red_red hc hp0 hd]
        rw [e1, e2]
        unfold ind
        by_cases q : redK (nrmR (counts n u)) x.1 = (s0.1, s0.2.1)
        · rw [if_pos q, if_pos]
          have q1 : redR (nrmR (counts n u)) x.1.1 = s0.1 := congrArg Prod.fst q
          have q2 : x.1.2 = s0.2.1 := congrArg Prod.snd q
          show ((redR _ (addP x.1.1 d), x.1.2) : Place × Nat) = _
          rw [q2, ← red_red hc hxl hd, q1, hP, red_red hc hp0 hd]
        · rw [if_neg q, if_neg]
          intro z
          apply q
          have z1 : redR (nrmR (counts n u)) (addP x.1.1 d) = redR (nrmR (counts n u)) (addP x0.1.1 d) := congrArg Prod.fst z
          have z2 : x.1.2 = s0.2.1 := congrArg Prod.snd z
          show ((redR _ x.1.1, x.1.2) : Place × Nat) = _
          rw [z2, hP, red_inj hc hxl hp0 hd z1]
      have hmem : (redR (nrmR (counts n u)) (addP s0.1 d), s0.2.1, s0.2.2) ∈ stS (rolledW n v) := mem_stS.mpr ((mem_can r1).mpr ⟨g1, hthere⟩)
      have hsub : subP (redR (nrmR (counts n u)) (addP s0.1 d)) s0.1 ∈ shiftsM (s0 :: sr) (stS (rolledW n v)) := by
        unfold shiftsM
        exact List.mem_map.mpr ⟨_, List.mem_filter.mpr ⟨hmem, decide_eq_true ⟨rfl, rfl⟩⟩, rfl⟩
      obtain ⟨m, hm⟩ := red_mul hc (addP_l hPl hd)
      have hd' : subP (redR (nrmR (counts n u)) (addP s0.1 d)) s0.1 = addP d (mulP m (counts n u)) := by
        rw [hm]
        have hml := mulP_l m hc
        have h1 := addP_l hPl hd
        refine place_ext (subP_l (addP_l h1 hml) hPl) (addP_l hd hml) fun i hi => ?_
        rw [sub_at (by rw [addP_l h1 hml]; exact hi) (by omega), add_at (by omega) (by omega), add_at (by omega) (by omega), add_at (by omega) (by omega)]
        omega
      have hmoved : stS (movedW (nrmR (counts n u)) (rolledW n u) (subP (redR (nrmR (counts n u)) (addP s0.1 d)) s0.1)) = stS (rolledW n v) := by
        obtain ⟨m1, m2⟩ := moved_can (nrmR (counts n u)) (rolledW n u) (subP (redR (nrmR (counts n u)) (addP s0.1 d)) s0.1)
        rw [stS_iff m1 r1]
        intro k
        rw [m2, ← hmr k]
        refine (lin_ext _ l2).trans (Eq.trans ?_ (lin_ext _ l2).symm)
        refine lin_congr fun e he => ?_
        have hel := push_l hc hul e he
        have : redK (nrmR (counts n u)) (shK (subP (redR (nrmR (counts n u)) (addP s0.1 d)) s0.1) e.1) = redK (nrmR (counts n u)) (shK d e.1) := by
          show ((redR _ (addP e.1.1 _), e.1.2) : Place × Nat) = (redR _ (addP e.1.1 d), e.1.2)
          rw [hd', ← add_assocP hel hd (mulP_l m hc), red_add hc (addP_l hel hd)]
        rw [this]
      cases hf : (shiftsM (s0 :: sr) (stS (rolledW n v))).find? fun d => decide (stS (movedW (nrmR (counts n u)) (rolledW n u) d) = stS (rolledW n v)) with
      | some d2 => simp
      | none =>
        have := (List.find?_eq_none.mp hf) _ hsub
        exact absurd (decide_eq_true hmoved) this
end K35
/-! text M4 -/
set_option Elab.async false
set_option linter.all false
set_option maxRecDepth 100000
set_option maxHeartbeats 4000000
/-! plain law 4: no word turns where turner tells none; the case without counts -/
namespace K35
open PySem PySem.Spec PyProof.Rows L2
def let1 (i : Nat) : Place × Nat → Int := fun x => if x.2 = i then 1 else 0
theorem fw_letter {n i : Nat} (hi : i < n) : ∀ (w : Wd) (p : Place), fw (let1 i) p w = (counts n w).getD i 0
  | [], p => by rw [counts_nil, zero_at]; rfl
  | g :: w, p => by
    have ih := fw_letter hi w (stp p g.1 (sgn g.2))
    have hc : counts n (g :: w) = addP (counts n [g]) (counts n w) := counts_app [g] w
    rw [fw_cons, ih, hc, add_at (by rw [counts_len]; exact hi) (by rw [counts_len]; exact hi), counts_at [g] hi]
    have : fw (let1 i) p [g] = ((([g] : Wd).count (i, true) : Nat) : Int) - ((([g] : Wd).count (i, false) : Nat) : Int) := by
      obtain ⟨j, b⟩ := g
      unfold fw
      rw [streets_cons]
      by_cases e : j = i
      · subst e
        cases b <;> simp [hdS, streetsOf, kl, lin, let1, List.count_cons]
      · have e2 : ¬ i = j := fun q => e q.symm
        cases b <;> simp [hdS, streetsOf, kl, lin, let1, List.count_cons, e, e2]
    omega
theorem mul_one (p : Place) : mulP 1 p = p := by
  unfold mulP
  have : (fun x : Int => 1 * x) = fun x => x := by funext x; omega
  rw [this, List.map_id']
theorem fw_at {n : Nat} {d : Place} {w : Wd} (φ : Place × Nat → Int) (hd : d.length = n) (hw : WF n w) : fw φ d w = lin (fun x => φ (shK d x)) (U n w) := by
  have := fw_sh φ hd hw (zeroP_len n)
  rw [zero_add hd] at this
  exact this
theorem turns_all {n : Nat} {t u v : Wd} (ht : WF n t) (hu : WF n u) (h : turnsM n t u v = true) (φ : Place × Nat → Int) : fw φ (zeroP n) t + fw φ (counts n t) u - fw φ (counts n u) t = fw φ (zeroP n) v := by
  have h1 := turns_iff.mp h
  have h2 : fw φ (zeroP n) (t ++ u ++ inv t) = fw φ (zeroP n) v := lin_ext φ h1
  rw [← h2, fw_turn φ ht hu]
/-- where a word turns, turner finds one -/
theorem law_A {n : Nat} {t u v : Wd} (ht : WF n t) (hu : WF n u) (hv : WF n v) (hM : turnerM n u v = none) : turnsM n t u v = false := by
  cases h : turnsM n t u v with
  | false => rfl
  | true =>
    exfalso
    have hall := turns_all ht hu h
    have hcc : counts n u = counts n v := place_ext (counts_len _ _) (counts_len _ _) fun i hi => by
      have := hall (let1 i)
      rw [fw_letter hi, fw_letter hi, fw_letter hi, fw_letter hi] at this
      omega
    refine shift_found hu hv hcc (counts_len n t) (fun k => ?_) hM
    have hk := hall fun x => ind k (redK (nrmR (counts n u)) x)
    have hc := counts_len n u
    have e1 : fw (fun x => ind k (redK (nrmR (counts n u)) x)) (counts n u) t = fw (fun x => ind k (redK (nrmR (counts n u)) x)) (zeroP n) t := by
      rw [fw_at _ hc ht]
      refine lin_congr fun e he => ?_
      have hl := kl_l ht (zeroP_len n) e he
      have : redK (nrmR (counts n u)) (shK (counts n u) e.1) = redK (nrmR (counts n u)) e.1 := by
        show ((redR _ (addP e.1.1 (counts n u)), e.1.2) : Place × Nat) = (redR _ e.1.1, e.1.2)
        have := red_add hc hl 1
        rw [mul_one] at this
        rw [this]
      rw [this]
    rw [e1, fw_at _ (counts_len n t) hu] at hk
    show ms _ _ _ _ = lin _ _
    rw [lin_push]
    have : ms (counts n u) (counts n t) (U n u) k = lin (fun x => ind k (redK (nrmR (counts n u)) (shK (counts n t) x))) (U n u) := rfl
    rw [this]
    have : fw (fun x => ind k (redK (nrmR (counts n u)) x)) (zeroP n) v = lin (fun x => ind k (redK (nrmR (counts n u)) x)) (U n v) := rfl
    rw [this] at hk
    omega
theorem lw_len {n : Nat} {c : Place} {u : Wd} (hc : c.length = n) (hu : WF n u) : KL n (lawW n (nrmR c) u) := fun e he => by
  obtain ⟨h1, h2⟩ := can_lw (nrmR c) (streetsOf (zeroP n) u)
  obtain ⟨g1, g2⟩ := (mem_can h1).mp (show (e.1, e.2) ∈ lwOf (nrmR c) (streetsOf (zeroP n) u) from he)
  obtain ⟨x, hx, hk⟩ := mem_key (k := e.1) (es := pushE (redK (nrmR c)) (U n u)) (by
    have := h2 e.1
    rw [g2] at this
    intro q
    exact g1 (this.trans q))
  rw [← hk]
  exact push_l hc (kl_l hu (zeroP_len n)) x hx
theorem law_C {n : Nat} {u v : Wd} (hu : WF n u) (hv : WF n v) (hM : turnerM n u v = none) (hcc : counts n u = counts n v) : (∀ k ∈ lawW n (nrmR (counts n u)) u, ∀ g ∈ lawW n (nrmR (counts n u)) v, eqE (lwOf (nrmR (counts n u)) ((lawW n (nrmR (counts n u)) u).map (shE (subP g.1.1 k.1.1)))) (lawW n (nrmR (counts n u)) v) = false) ∧ eqE (lawW n (nrmR (counts n u)) u) (lawW n (nrmR (counts n u)) v) = false := by
  have hc := counts_len n u
  obtain ⟨a1, a2⟩ := can_lw (nrmR (counts n u)) (streetsOf (zeroP n) u)
  obtain ⟨b1, b2⟩ := can_lw (nrmR (counts n u)) (streetsOf (zeroP n) v)
  have hul : KL n (U n u) := kl_l hu (zeroP_len n)
  constructor
  · intro k hk g hg
    have hd : (subP g.1.1 k.1.1).length = n := subP_l (lw_len hc hv g hg) (lw_len hc hu k hk)
    cases h : eqE (lwOf (nrmR (counts n u)) ((lawW n (nrmR (counts n u)) u).map (shE (subP g.1.1 k.1.1)))) (lawW n (nrmR (counts n u)) v) with
    | false => rfl
    | true =>
      exfalso
      obtain ⟨c1, c2⟩ := can_lw (nrmR (counts n u)) ((lawW n (nrmR (counts n u)) u).map (shE (subP g.1.1 k.1.1)))
      have h := (eqE_iff c1 b1).mp h
      refine shift_found hu hv hcc hd (fun x => ?_) hM
      have hx := h x
      rw [c2, b2] at hx
      refine Eq.trans ?_ hx
      have e : kl ((lawW n (nrmR (counts n u)) u).map (shE (subP g.1.1 k.1.1))) = pushE (shK (subP g.1.1 k.1.1)) (lawW n (nrmR (counts n u)) u) := by
        unfold kl pushE
        rw [List.map_map]
        rfl
      rw [e, ← ms_eq, ← ms_red hc hd hul]
      exact lin_ext _ fun k => (a2 k).symm
  · cases h : eqE (lawW n (nrmR (counts n u)) u) (lawW n (nrmR (counts n u)) v) with
    | false => rfl
    | true =>
      exfalso
      have h := (eqE_iff a1 b1).mp h
      refine shift_found hu hv hcc (zeroP_len n) (fun x => ?_) hM
      rw [ms_zero hul]
      have := h x
      rw [a2, b2] at this
      exact this
/-! the counts of a road -/
theorem roadI_count (i j : Nat) (v : Int) (b : Bool) : (((roadI i v).count (j, b) : Nat) : Int) = if j = i then (if b = true then (if v > 0 then v else 0) else (if v > 0 then 0 else -v)) else 0 := by
  unfold roadI
  split
  · rename_i hv
    rw [List.count_replicate]
    by_cases e : j = i
    · subst e
      cases b
      · simp
      · simp; omega
    · have : ¬ ((i, true) == (j, b)) = true := by simp; intro q; exact absurd q.symm e
      rw [if_neg this, if_neg e]
      rfl
  · rename_i hv
    rw [List.count_replicate]
    by_cases e : j = i
    · subst e
      cases b
      · simp; omega
      · simp
    · have : ¬ ((i, false) == (j, b)) = true := by simp; intro q; exact absurd q.symm e
      rw [if_neg this, if_neg e]
      rfl
theorem roadFrom_count : ∀ (p : Place) (i j : Nat), (((roadFrom i p).count (j, true) : Nat) : Int) - (((roadFrom i p).count (j, false) : Nat) : Int) = if i ≤ j then p.getD (j - i) 0 else 0
  | [], i, j => by
    have : ([] : Place).getD (j - i) 0 = 0 := rfl
    rw [this]
    simp [roadFrom]
  | v :: p, i, j => by
    have ih := roadFrom_count p (i + 1) j
    have h1 := roadI_count i j v true
    have h2 := roadI_count i j v false
    unfold roadFrom
    rw [List.count_append, List.count_append, Int.natCast_add, Int.natCast_add, h1, h2]
    by_cases e : j = i
    · subst e
      rw [if_neg (by omega)] at ih
      simp
      split <;> omega
    · rw [if_neg e, if_neg e]
      by_cases e2 : i ≤ j
      · rw [if_pos (by omega)] at ih
        obtain ⟨m, rfl⟩ : ∃ m, j = i + 1 + m := ⟨j - i - 1, by omega⟩
        rw [if_pos e2, show i + 1 + m - i = m + 1 by omega]
        rw [show i + 1 + m - (i + 1) = m by omega] at ih
        have : (v :: p).getD (m + 1) 0 = p.getD m 0 := rfl
        rw [this]
        omega
      · rw [if_neg (by omega)] at ih
        rw [if_neg e2]
        omega
theorem counts_road {n : Nat} {d : Place} (hd : d.length = n) : counts n (road d) = d := place_ext (counts_len _ _) hd fun i hi => by
  rw [counts_at _ hi]
  have := roadFrom_count d 0 i
  rw [if_pos (Nat.zero_le _)] at this
  exact this
/-! where turner finds a word: what it means -/
theorem letter_push (R : List Place) (i : Nat) (l : WE) : lin (let1 i) (pushE (redK R) l) = lin (let1 i) l := by
  rw [lin_push]
  rfl
theorem nrm_zero {n : Nat} : nrmR (zeroP n) = [] := by
  rcases nrm_cases (zeroP n) with ⟨h, e⟩ | ⟨h, e⟩
  · exact e
  · rw [isZ_iff (zeroP_len n), decide_eq_true rfl] at h
    cases h
/-- what turner's answer says -/
theorem turner_some {n : Nat} {u v t : Wd} (hu : WF n u) (h : turnerM n u v = some t) : counts n u = counts n v ∧ ((t = [] ∧ counts n u = zeroP n ∧ (∀ k, sm (U n u) k = 0) ∧ ∀ k, sm (U n v) k = 0) ∨
    ∃ d ∈ shiftsM (stS (rolledW n u)) (stS (rolledW n v)), stS (movedW (nrmR (counts n u)) (rolledW n u) d) = stS (rolledW n v) ∧ t = turnedM n u v d) := by
  rw [turnerM_eq] at h
  by_cases hcc : counts n u = counts n v
  · refine ⟨hcc, ?_⟩
    rw [if_neg (by simpa using hcc)] at h
    obtain ⟨l1, l2⟩ := rolled_can n u
    obtain ⟨r1, r2⟩ := rolled_can n v
    by_cases hl : rolledW n u = []
    · rw [if_pos hl] at h
      by_cases hr : rolledW n v = []
      · rw [if_pos hr] at h
        have hz : counts n u = zeroP n := place_ext (counts_len _ _) (zeroP_len n) fun i hi => by
          have h1 := fw_letter hi u (zeroP n)
          have h2 : lin (let1 i) (rolledW n u) = lin (let1 i) (pushE (redK (nrmR (counts n u))) (U n u)) := lin_ext _ l2
          rw [letter_push, hl] at h2
          have h3 : lin (let1 i) (U n u) = fw (let1 i) (zeroP n) u := rfl
          rw [zero_at, ← h1, ← h3, ← h2]
          rfl
        left
        refine ⟨(Option.some.inj h).symm, hz, fun k => ?_, fun k => ?_⟩
        · have := l2 k
          rw [hl, hz, nrm_zero, push_nil] at this
          exact this.symm
        · have := r2 k
          rw [hr, ← hcc, hz, nrm_zero, push_nil] at this
          exact this.symm
      · rw [if_neg hr] at h
        cases h
    · rw [if_neg hl] at h
      right
      cases hf : (shiftsM (stS (rolledW n u)) (stS (rolledW n v))).find? fun d => decide (stS (movedW (nrmR (counts n u)) (rolledW n u) d) = stS (rolledW n v)) with
      | some d =>
        rw [hf] at h
        have h := (Option.some.inj h).symm
        have h2 := List.find?_some hf
        exact ⟨d, List.mem_of_find?_eq_some hf, of_decide_eq_true h2, h⟩
      | none =>
        rw [hf] at h
        cases h
  · rw [if_pos (by simpa using hcc)] at h
    cases h
/-- a walk that is moved, by the counts: the other one -/
theorem moved_ms {n : Nat} {u v : Wd} {d : Place} (hu : WF n u) (hcc : counts n u = counts n v) (hd : d.length = n) (h : stS (movedW (nrmR (counts n u)) (rolledW n u) d) = stS (rolledW n v)) (k : Place × Nat) : ms (counts n u) d (U n u) k = sm (pushE (redK (nrmR (counts n u))) (U n v)) k := by
  obtain ⟨l1, l2⟩ := rolled_can n u
  obtain ⟨r1, r2⟩ := rolled_can n v
  obtain ⟨m1, m2⟩ := moved_can (nrmR (counts n u)) (rolledW n u) d
  have := (stS_iff m1 r1).mp h k
  rw [m2, r2, ← hcc] at this
  rw [← this, ← ms_red (l := U n u) (counts_len n u) hd (kl_l hu (zeroP_len n))]
  exact (lin_ext _ l2).symm
theorem B_zero {n : Nat} {u v : Wd} {d : Place} (hu : WF n u) (hcc : counts n u = counts n v) (hd : d.length = n) (hz : counts n u = zeroP n) (h : stS (movedW (nrmR (counts n u)) (rolledW n u) d) = stS (rolledW n v)) : turnsM n (road d) u v = true := by
  rw [turns_iff]
  intro k
  have hm := moved_ms hu hcc hd h k
  rw [fw_turn _ (road_wf hd) hu, hz, counts_road hd, fw_at _ hd hu]
  rw [hz, nrm_zero, push_nil] at hm
  have e1 : ms (zeroP n) d (U n u) k = lin (fun x => ind k (shK d x)) (U n u) := by
    unfold ms
    rw [nrm_zero]
    rfl
  rw [e1] at hm
  rw [hm]
  show _ = lin _ _
  have : sm (U n v) k = lin (ind k) (kl (streetsOf (zeroP n) v)) := rfl
  omega
theorem B_nil {n : Nat} {u v : Wd} (h1 : ∀ k, sm (U n u) k = 0) (h2 : ∀ k, sm (U n v) k = 0) : turnsM n [] u v = true := by
  rw [turns_iff]
  intro k
  have e : ([] ++ u ++ inv [] : Wd) = u := by simp [inv]
  rw [e]
  exact (h1 k).trans (h2 k).symm
end K35
/-! text M5 -/
set_option Elab.async false
set_option linter.all false
set_option maxRecDepth 100000
set_option maxHeartbeats 4000000
/-! plain law 5: the gap and its sums along the counts -/
namespace K35
open PySem PySem.Spec PyProof.Rows L2
theorem can_times {es : WE} (hk : Can es) (m : Int) : Can (timesW [] es m) ∧ ∀ φ, lin φ (timesW [] es m) = m * lin φ es := by
  obtain ⟨h1, h2⟩ := can_mkW [] ((stS es).map fun s => (s.1, s.2.1, m * s.2.2))
  refine ⟨h1, fun φ => ?_⟩
  have e : kl ((stS es).map fun s => (s.1, s.2.1, m * s.2.2)) = (kl (stS es)).map fun e => (e.1, m * e.2) := by
    unfold kl
    rw [List.map_map, List.map_map]
    rfl
  have : lin φ (timesW [] es m) = lin φ (pushE (redK []) (kl ((stS es).map fun s => (s.1, s.2.1, m * s.2.2)))) := lin_ext φ h2
  rw [this, push_nil, e, lin_times, lin_perm _ (kl_stS es)]
theorem free_can (p : Place) (w : Wd) : Can (freeW p w) ∧ ∀ φ, lin φ (freeW p w) = fw φ p w := by
  obtain ⟨h1, h2⟩ := can_mkW [] (streetsOf p w)
  refine ⟨h1, fun φ => ?_⟩
  have : lin φ (freeW p w) = lin φ (pushE (redK []) (kl (streetsOf p w))) := lin_ext φ h2
  rw [this, push_nil]
  rfl
theorem gap_can (n : Nat) (u v : Wd) (d : Place) : Can (gapW n u v d) ∧ ∀ φ, lin φ (gapW n u v d) = fw φ (zeroP n) v - fw φ d u := by
  unfold gapW
  rw [minusW_eq]
  obtain ⟨a1, a2⟩ := free_can (zeroP n) v
  obtain ⟨b1, b2⟩ := free_can d u
  obtain ⟨t1, t2⟩ := can_times b1 (-1)
  obtain ⟨h1, h2⟩ := can_mkW [] (stS (freeW (zeroP n) v) ++ stS (timesW [] (freeW d u) (-1)))
  refine ⟨h1, fun φ => ?_⟩
  have := lin_ext φ h2
  rw [this, push_nil, kl_app, lin_app, lin_perm _ (kl_stS _), lin_perm _ (kl_stS _), a2, t2, b2]
  omega
/-! before, along the counts -/
theorem before_iff {c x p : Place} {n : Nat} (hc : c.length = n) (hx : x.length = n) (hp : p.length = n) (hz : isZ c = false) : isBefore x p c = true ↔ ∃ m : Nat, p = addP x (mulP m c) := by
  have hl := lead_lt hz
  have hne := lead_ne hz
  unfold isBefore
  rw [Bool.and_eq_true, decide_eq_true_iff, decide_eq_true_iff]
  constructor
  · rintro ⟨h1, h2⟩
    generalize ((subP p x).getD (leadP c) 0).fdiv (lead c) = t at h1 h2
    refine ⟨t.toNat, ?_⟩
    have ht : ((t.toNat : Nat) : Int) = t := by omega
    rw [ht, ← h2, add_commP hx (subP_l hp hx), sub_addP hp hx]
  · rintro ⟨m, rfl⟩
    have hm := mulP_l (m : Int) hc
    have e : subP (addP x (mulP m c)) x = mulP m c := by rw [add_commP hx hm, add_subP hm hx]
    rw [e, mul_at]
    have e2 : ((m : Int) * c.getD (leadP c) 0).fdiv (lead c) = m := by
      show ((m : Int) * lead c).fdiv (lead c) = m
      rw [Int.mul_fdiv_cancel _ hne]
    rw [e2]
    exact ⟨by omega, rfl⟩
def bfI (c p : Place) (i : Nat) : Place × Nat → Int := fun x => if x.2 = i ∧ isBefore x.1 p c = true then 1 else 0
/-- the sum of a street and those before it -/
def Gs (g : WE) (c p : Place) (i : Nat) : Int := lin (bfI c p i) g
theorem sumLeft_lin (ss : List St3) (p : Place) (i : Nat) (c : Place) : sumLeft ss p i c = lin (bfI c p i) (kl ss) := by
  have key : ∀ (ss : List St3) (t : Int), ss.foldl (slF p i c) t = t + lin (bfI c p i) (kl ss) := by
    intro ss
    induction ss with
    | nil => intro t; show t = t + 0; omega
    | cons s ss ih =>
      intro t
      rw [List.foldl_cons, ih]
      have : lin (bfI c p i) (kl (s :: ss)) = bfI c p i (s.1, s.2.1) * s.2.2 + lin (bfI c p i) (kl ss) := rfl
      rw [this]
      unfold slF bfI
      by_cases h : s.2.1 = i ∧ isBefore s.1 p c = true
      · rw [if_pos h, if_pos (by simp [h])]
        omega
      · rw [if_neg h, if_neg (by simpa using h)]
        omega
  rw [sumLeft_eq, key]
  omega
theorem sumLeft_Gs (g : WE) (p : Place) (i : Nat) (c : Place) : sumLeft (stS g) p i c = Gs g c p i := by
  rw [sumLeft_lin]
  exact lin_perm _ (kl_stS g)
theorem mulP_succ (c : Place) {n : Nat} (hc : c.length = n) (m : Nat) {p : Place} (hp : p.length = n) : addP (addP p c) (mulP m c) = addP p (mulP ((m + 1 : Nat) : Int) c) := by
  have hm := mulP_l (m : Int) hc
  have hm2 := mulP_l ((m + 1 : Nat) : Int) hc
  refine place_ext (addP_l (addP_l hp hc) hm) (addP_l hp hm2) fun i hi => ?_
  rw [add_at (by rw [addP_l hp hc]; exact hi) (by omega), add_at (by omega) (by omega), add_at (by omega) (by omega), mul_at, mul_at]
  rw [show (((m + 1 : Nat) : Int)) = (m : Int) + 1 from rfl, Int.add_mul]
  omega
theorem mulP_zero {c : Place} {n : Nat} (hc : c.length = n) {p : Place} (hp : p.length = n) : addP p (mulP ((0 : Nat) : Int) c) = p := by
  refine place_ext (addP_l hp (mulP_l _ hc)) hp fun i hi => ?_
  rw [add_at (by omega) (by rw [mulP_l _ hc]; exact hi), mul_at]
  simp
theorem mul_ne {c p : Place} {n : Nat} (hc : c.length = n) (hz : isZ c = false) (hp : p.length = n) {m : Nat} (h : p = addP p (mulP m c)) : m = 0 := by
  have hl := lead_lt hz
  have hne := lead_ne hz
  have := congrArg (fun z => z.getD (leadP c) 0) h
  rw [add_at (by omega) (by rw [mulP_l _ hc]; omega), mul_at] at this
  have h2 : (m : Int) * lead c = 0 := by
    show (m : Int) * c.getD (leadP c) 0 = 0
    omega
  rcases Int.mul_eq_zero.mp h2 with h | h
  · omega
  · exact absurd h hne
/-- q is come to from p along c, with no street on the way -/
def Reach (g : WE) (c : Place) (i : Nat) (p q : Place) : Prop := ∃ m : Nat, q = addP p (mulP m c) ∧ ∀ j : Nat, 1 ≤ j → j ≤ m → (getE g (addP p (mulP j c), i)).getD 0 = 0
theorem reach_step {g : WE} {c : Place} {i n : Nat} {p q : Place} (hc : c.length = n) (hp : p.length = n) : Reach g c i p q ↔ q = p ∨ ((getE g (addP p c, i)).getD 0 = 0 ∧ Reach g c i (addP p c) q) := by
  have h1 : addP p (mulP ((1 : Nat) : Int) c) = addP p c := by rw [show (((1 : Nat) : Int)) = 1 from rfl, mul_one]
  constructor
  · rintro ⟨m, rfl, h⟩
    cases m with
    | zero => exact .inl (mulP_zero hc hp)
    | succ m =>
      refine .inr ⟨?_, m, (mulP_succ c hc m hp).symm, fun j hj1 hj2 => ?_⟩
      · have := h 1 (Nat.le_refl _) (by omega)
        rw [h1] at this
        exact this
      · rw [mulP_succ c hc j hp]
        exact h (j + 1) (by omega) (by omega)
  · rintro (rfl | ⟨h0, m, rfl, h⟩)
    · exact ⟨0, (mulP_zero hc hp).symm, fun j a b => by omega⟩
    · refine ⟨m + 1, mulP_succ c hc m hp, fun j hj1 hj2 => ?_⟩
      obtain ⟨j, rfl⟩ : ∃ k, j = k + 1 := ⟨j - 1, by omega⟩
      rw [← mulP_succ c hc j hp]
      cases j with
      | zero => rw [mulP_zero hc (addP_l hp hc)]; exact h0
      | succ j => exact h (j + 1) (by omega) (by omega)
theorem reach_self {g : WE} {c : Place} {i n : Nat} {p : Place} (hc : c.length = n) (hp : p.length = n) (hz : isZ c = false) : ¬ Reach g c i (addP p c) p := by
  rintro ⟨m, h, _⟩
  rw [mulP_succ c hc m hp] at h
  have := mul_ne hc hz hp h
  omega
open Classical in
theorem chain_sm {g : WE} {c : Place} {i n : Nat} {r : Int} (hc : c.length = n) (hz : isZ c = false) : ∀ (f : Nat) (p q : Place) (i' : Nat), p.length = n → Stops g c i f p →
    sm (kl (chainF g c i r f p)) (q, i') = if i' = i ∧ Reach g c i p q then r else 0
  | 0, p, q, i', _, h => h.elim
  | f + 1, p, q, i', hp, h => by
    have hs : sm (kl (chainF g c i r (f + 1) p)) (q, i') = ind (q, i') (p, i) * r + sm (kl (if (getE g (addP p c, i)).getD 0 ≠ 0 then [] else chainF g c i r f (addP p c))) (q, i') := rfl
    have hr := reach_step (g := g) (i := i) (q := q) hc hp
    rw [hs]
    have hind : ind (q, i') (p, i) = if i' = i ∧ q = p then 1 else 0 := by
      unfold ind
      by_cases e : i' = i ∧ q = p
      · rw [if_pos e, if_pos (by rw [e.1, e.2])]
      · rw [if_neg e, if_neg]
        intro z
        exact e ⟨(congrArg Prod.snd z).symm, (congrArg Prod.fst z).symm⟩
    rw [hind]
    by_cases hv : (getE g (addP p c, i)).getD 0 = 0
    · have hif : (if (getE g (addP p c, i)).getD 0 ≠ 0 then [] else chainF g c i r f (addP p c)) = chainF g c i r f (addP p c) := if_neg (by simpa using hv)
      rw [hif]
      have hst : Stops g c i f (addP p c) := by
        rcases h with h | h
        · exact absurd hv h
        · exact h
      rw [chain_sm hc hz f (addP p c) q i' (addP_l hp hc) hst]
      by_cases e : i' = i
      · by_cases e2 : q = p
        · rw [if_pos ⟨e, e2⟩, if_neg (fun z => by rw [e2] at z; exact reach_self hc hp hz z.2), if_pos ⟨e, hr.mpr (.inl e2)⟩]
          omega
        · rw [if_neg (fun z => e2 z.2)]
          by_cases e3 : Reach g c i (addP p c) q
          · rw [if_pos ⟨e, e3⟩, if_pos ⟨e, hr.mpr (.inr ⟨hv, e3⟩)⟩]
            omega
          · rw [if_neg (fun z => e3 z.2), if_neg]
            · omega
            · rintro ⟨_, z⟩
              rcases hr.mp z with z | z
              · exact e2 z
              · exact e3 z.2
      · rw [if_neg (fun z => e z.1), if_neg (fun z => e z.1), if_neg (fun z => e z.1)]
        omega
    · have hif : (if (getE g (addP p c, i)).getD 0 ≠ 0 then [] else chainF g c i r f (addP p c)) = [] := if_pos hv
      rw [hif]
      have h0 : sm (kl ([] : List St3)) (q, i') = 0 := rfl
      rw [h0]
      by_cases e : i' = i ∧ q = p
      · rw [if_pos e, if_pos ⟨e.1, hr.mpr (.inl e.2)⟩]
        omega
      · rw [if_neg e, if_neg]
        · omega
        · rintro ⟨z1, z2⟩
          rcases hr.mp z2 with z | z
          · exact e ⟨z1, z⟩
          · exact hv z.1
open Classical in
theorem chains_sm {g : WE} {c : Place} {n : Nat} (hc : c.length = n) (hz : isZ c = false) (q : Place) (i : Nat) : ∀ (ss : List St3), (∀ s ∈ ss, s.1.length = n) → (∀ s ∈ ss, sumLeft (stS g) s.1 s.2.1 c ≠ 0 → Stops g c s.2.1 fuel s.1) →
    sm (kl ((ss.map (chOf g c)).flatten)) (q, i) = (ss.map fun s => if s.2.1 = i ∧ Reach g c i s.1 q then Gs g c s.1 i else 0).sum
  | [], _, _ => rfl
  | s :: ss, hl, hst => by
    have ih := chains_sm hc hz q i ss (fun x hx => hl x (List.mem_cons_of_mem _ hx)) (fun x hx => hst x (List.mem_cons_of_mem _ hx))
    rw [List.map_cons, List.flatten_cons, kl_app, List.map_cons, List.sum_cons, ← ih]
    show lin _ _ = _
    rw [lin_app]
    have h1 : lin (ind (q, i)) (kl (chOf g c s)) = if s.2.1 = i ∧ Reach g c i s.1 q then Gs g c s.1 i else 0 := by
      unfold chOf
      by_cases h0 : sumLeft (stS g) s.1 s.2.1 c = 0
      · rw [if_pos h0]
        split
        · rename_i h
          rw [← h.1, ← sumLeft_Gs, h0]
          rfl
        · rfl
      · rw [if_neg h0]
        have := chain_sm (g := g) (i := s.2.1) (r := sumLeft (stS g) s.1 s.2.1 c) hc hz fuel s.1 q i (hl s (List.mem_cons_self ..)) (hst s (List.mem_cons_self ..) h0)
        refine Eq.trans this ?_
        by_cases e : s.2.1 = i
        · subst e
          by_cases e2 : Reach g c s.2.1 s.1 q
          · rw [if_pos ⟨rfl, e2⟩, if_pos ⟨rfl, e2⟩, sumLeft_Gs]
          · rw [if_neg (fun z => e2 z.2), if_neg (fun z => e2 z.2)]
        · rw [if_neg (fun z => e z.1.symm), if_neg (fun z => e z.1)]
    rw [h1]
    rfl
theorem sum_zero {α : Type} {f : α → Int} {l : List α} (h : ∀ x ∈ l, f x = 0) : (l.map f).sum = 0 := by
  induction l with
  | nil => rfl
  | cons a l ih => rw [List.map_cons, List.sum_cons, h a (List.mem_cons_self ..), ih fun x hx => h x (List.mem_cons_of_mem _ hx)]; rfl
theorem sum_congr {α : Type} {f f' : α → Int} {l : List α} (h : ∀ x ∈ l, f x = f' x) : (l.map f).sum = (l.map f').sum := by rw [List.map_congr_left h]
theorem sum_one {α : Type} [DecidableEq α] {f : α → Int} {l : List α} (hn : l.Nodup) {a : α} (ha : a ∈ l) (h : ∀ x ∈ l, x ≠ a → f x = 0) : (l.map f).sum = f a := by
  induction l with
  | nil => cases ha
  | cons b l ih =>
    obtain ⟨h1, h2⟩ := List.nodup_cons.mp hn
    rw [List.map_cons, List.sum_cons]
    rcases List.mem_cons.mp ha with rfl | ha
    · rw [sum_zero]
      · omega
      · intro x hx
        exact h x (List.mem_cons_of_mem _ hx) (by rintro rfl; exact h1 hx)
    · rw [ih h2 ha fun x hx hne => h x (List.mem_cons_of_mem _ hx) hne, h b (List.mem_cons_self ..) (by rintro rfl; exact h1 ha)]
      omega
theorem nodup_map {α β : Type} {f : α → β} {l : List α} (h : (l.map f).Nodup) : l.Nodup := by
  induction l with
  | nil => exact .nil
  | cons e es ih =>
    obtain ⟨h1, h2⟩ := List.nodup_cons.mp h
    exact List.nodup_cons.mpr ⟨fun q => h1 (List.mem_map.mpr ⟨e, q, rfl⟩), ih h2⟩
theorem stS_nodup {g : WE} (hg : Can g) : (stS g).Nodup := by
  have h2 : (kl (stS g)).Nodup := (kl_stS g).nodup_iff.mpr (nodup_of_keys hg.nd)
  exact nodup_map h2
/-- the sum of the chains is the sum of those before -/
theorem steps_bound {c : Place} {n : Nat} (hc : c.length = n) (hz : isZ c = false) (q : Place) : ∀ ss : List St3, (∀ s ∈ ss, s.1.length = n) → ∃ M : Nat, ∀ s ∈ ss, ∀ m : Nat, q = addP s.1 (mulP m c) → m < M
  | [], _ => ⟨0, fun s hs => nomatch hs⟩
  | s :: ss, hl => by
    obtain ⟨M, h⟩ := steps_bound hc hz q ss fun x hx => hl x (List.mem_cons_of_mem _ hx)
    have hll := lead_lt hz
    have hne := lead_ne hz
    have hs := hl s (List.mem_cons_self ..)
    refine ⟨M + (q.getD (leadP c) 0 - s.1.getD (leadP c) 0).natAbs + 1, fun x hx m e => ?_⟩
    rcases List.mem_cons.mp hx with rfl | hx
    · have := congrArg (fun z => z.getD (leadP c) 0) e
      rw [add_at (by omega) (by rw [mulP_l _ hc]; omega), mul_at] at this
      have h2 : q.getD (leadP c) 0 - x.1.getD (leadP c) 0 = (m : Int) * lead c := by
        show _ = (m : Int) * c.getD (leadP c) 0
        omega
      rw [h2, Int.natAbs_mul]
      have h3 : 1 ≤ (lead c).natAbs := by omega
      have h4 : m * 1 ≤ m * (lead c).natAbs := Nat.mul_le_mul_left _ h3
      have h5 : ((m : Nat) : Int).natAbs = m := by omega
      rw [h5]
      omega
    · have := h x hx m e
      omega
theorem step_back {c q : Place} {n : Nat} (hc : c.length = n) (hq : q.length = n) {p : Place} (hp : p.length = n) (m : Nat) : q = addP p (mulP ((m + 1 : Nat) : Int) c) ↔ subP q c = addP p (mulP m c) := by
  have hm := mulP_l (m : Int) hc
  have hm2 := mulP_l ((m + 1 : Nat) : Int) hc
  have hs := mulP_succ c hc m hp
  constructor
  · rintro rfl
    rw [← hs]
    have : addP (addP p c) (mulP m c) = addP (addP p (mulP m c)) c := by rw [add_assocP hp hc hm, add_commP hc hm, ← add_assocP hp hm hc]
    rw [this, add_subP (addP_l hp hm) hc]
  · intro h
    have : q = addP (subP q c) c := (sub_addP hq hc).symm
    rw [this, h, ← hs, add_assocP hp hc hm, add_commP hc hm, ← add_assocP hp hm hc]
theorem no_street {g : WE} (hg : Can g) {q : Place} {i : Nat} (hv : (getE g (q, i)).getD 0 = 0) {s : St3} (hs : s ∈ stS g) (hi : s.2.1 = i) : s.1 ≠ q := by
  rintro rfl
  subst hi
  obtain ⟨h1, h2⟩ := (mem_can hg).mp (mem_stS.mp hs)
  rw [sm_val hg.nd, hv] at h2
  exact h1 h2.symm
open Classical in
theorem reach_sum {g : WE} {c : Place} {n : Nat} (hg : Can g) (hl : KL n g) (hc : c.length = n) (hz : isZ c = false) (i : Nat) : ∀ (M : Nat) (q : Place), q.length = n → (∀ s ∈ stS g, s.2.1 = i → ∀ m : Nat, q = addP s.1 (mulP m c) → m < M) →
    ((stS g).map fun s => if s.2.1 = i ∧ Reach g c i s.1 q then Gs g c s.1 i else 0).sum = Gs g c q i
  | 0, q, hq, h => by
    rw [sum_zero]
    · refine (lin_zero fun e he => if_neg ?_).symm
      rintro ⟨e1, e2⟩
      obtain ⟨m, hm⟩ := (before_iff hc (hl e he) hq hz).mp e2
      exact absurd (h (e.1.1, e.1.2, e.2) (mem_stS.mpr he) e1 m hm) (Nat.not_lt_zero _)
    · intro s hs
      refine if_neg ?_
      rintro ⟨e1, m, hm, _⟩
      exact absurd (h s hs e1 m hm) (Nat.not_lt_zero _)
  | M + 1, q, hq, h => by
    have hsl : ∀ s ∈ stS g, s.1.length = n := fun s hs => hl _ (mem_stS.mp hs)
    by_cases hv : (getE g (q, i)).getD 0 = 0
    · have hq' : (subP q c).length = n := subP_l hq hc
      have ih := reach_sum hg hl hc hz i M (subP q c) hq' fun s hs hi m hm => by
        have := h s hs hi (m + 1) ((step_back hc hq (hsl s hs) m).mpr hm)
        omega
      have hgs : Gs g c q i = Gs g c (subP q c) i := by
        refine lin_congr fun e he => ?_
        unfold bfI
        by_cases e1 : e.1.2 = i
        · have hx := hl e he
          have hne : e.1.1 ≠ q := no_street hg hv (s := (e.1.1, e.1.2, e.2)) (mem_stS.mpr he) e1
          have : isBefore e.1.1 q c = true ↔ isBefore e.1.1 (subP q c) c = true := by
            rw [before_iff hc hx hq hz, before_iff hc hx hq' hz]
            constructor
            · rintro ⟨m, hm⟩
              cases m with
              | zero => rw [mulP_zero hc hx] at hm; exact absurd hm.symm hne
              | succ m => exact ⟨m, (step_back hc hq hx m).mp hm⟩
            · rintro ⟨m, hm⟩
              exact ⟨m + 1, (step_back hc hq hx m).mpr hm⟩
          by_cases e2 : isBefore e.1.1 q c = true
          · rw [if_pos ⟨e1, e2⟩, if_pos ⟨e1, this.mp e2⟩]
          · rw [if_neg (fun z => e2 z.2), if_neg (fun z => e2 (this.mpr z.2))]
        · rw [if_neg (fun z => e1 z.1), if_neg (fun z => e1 z.1)]
      rw [hgs, ← ih]
      refine sum_congr fun s hs => ?_
      by_cases e1 : s.2.1 = i
      · have hx := hsl s hs
        have hne := no_street hg hv hs e1
        have : Reach g c i s.1 q ↔ Reach g c i s.1 (subP q c) := by
          constructor
          · rintro ⟨m, hm, hf⟩
            cases m with
            | zero => rw [mulP_zero hc hx] at hm; exact absurd hm.symm hne
            | succ m => exact ⟨m, (step_back hc hq hx m).mp hm, fun j a b => hf j a (by omega)⟩
          · rintro ⟨m, hm, hf⟩
            have hqm := (step_back hc hq hx m).mpr hm
            refine ⟨m + 1, hqm, fun j a b => ?_⟩
            by_cases e : j = m + 1
            · rw [e, ← hqm]
              exact hv
            · exact hf j a (by omega)
        by_cases e2 : Reach g c i s.1 q
        · rw [if_pos ⟨e1, e2⟩, if_pos ⟨e1, this.mp e2⟩]
        · rw [if_neg (fun z => e2 z.2), if_neg (fun z => e2 (this.mpr z.2))]
      · rw [if_neg (fun z => e1 z.1), if_neg (fun z => e1 z.1)]
    · have hmem : (q, i, (getE g (q, i)).getD 0) ∈ stS g := mem_stS.mpr ((mem_can hg).mpr ⟨hv, sm_val hg.nd _⟩)
      rw [sum_one (stS_nodup hg) hmem]
      · rw [if_pos ⟨rfl, 0, (mulP_zero hc hq).symm, fun j a b => by omega⟩]
      · intro s hs hne
        refine if_neg ?_
        rintro ⟨e1, m, hm, hf⟩
        have hx := hsl s hs
        cases m with
        | zero =>
          rw [mulP_zero hc hx] at hm
          apply hne
          obtain ⟨p, j, x⟩ := s
          have e1 : j = i := e1
          have hm : q = p := hm
          subst e1 hm
          obtain ⟨_, h2⟩ := (mem_can hg).mp (mem_stS.mp hs)
          have h2 : sm g (q, j) = x := h2
          rw [← sm_val hg.nd, h2]
        | succ m =>
          have := hf (m + 1) (by omega) (Nat.le_refl _)
          rw [← hm] at this
          exact hv this
/-- the walk that summed makes -/
theorem summed_sm {g : WE} {c : Place} {n : Nat} (hg : Can g) (hl : KL n g) (hc : c.length = n) (hz : isZ c = false) (hst : ∀ s ∈ stS g, sumLeft (stS g) s.1 s.2.1 c ≠ 0 → Stops g c s.2.1 fuel s.1) {q : Place} (hq : q.length = n) (i : Nat) :
    sm (kl (summedL g c)) (q, i) = Gs g c q i := by
  have hsl : ∀ s ∈ stS g, s.1.length = n := fun s hs => hl _ (mem_stS.mp hs)
  rw [summedL_eq, chains_sm hc hz q i (stS g) hsl hst]
  obtain ⟨M, hM⟩ := steps_bound hc hz q (stS g) hsl
  exact reach_sum hg hl hc hz i M q hq fun s hs _ m hm => hM s hs m hm
theorem Gs_step {g : WE} {c : Place} {n : Nat} (hl : KL n g) (hc : c.length = n) (hz : isZ c = false) {q : Place} (hq : q.length = n) (i : Nat) : Gs g c q i = Gs g c (subP q c) i + sm g (q, i) := by
  show _ = _ + lin _ _
  unfold Gs
  rw [← lin_add]
  refine lin_congr fun e he => ?_
  have hx := hl e he
  have hq' : (subP q c).length = n := subP_l hq hc
  unfold bfI ind
  by_cases e1 : e.1.2 = i
  · by_cases e2 : e.1.1 = q
    · have h1 : isBefore e.1.1 q c = true := (before_iff hc hx hq hz).mpr ⟨0, by rw [mulP_zero hc hx, e2]⟩
      have h2 : ¬ isBefore e.1.1 (subP q c) c = true := by
        intro h
        obtain ⟨m, hm⟩ := (before_iff hc hx hq' hz).mp h
        have := (step_back hc hq hx m).mpr hm
        rw [e2] at this
        have := mul_ne hc hz hq this
        omega
      rw [if_pos ⟨e1, h1⟩, if_neg (fun z => h2 z.2), if_pos (by rw [← e2, ← e1])]
      rfl
    · have : isBefore e.1.1 q c = true ↔ isBefore e.1.1 (subP q c) c = true := by
        rw [before_iff hc hx hq hz, before_iff hc hx hq' hz]
        constructor
        · rintro ⟨m, hm⟩
          cases m with
          | zero => rw [mulP_zero hc hx] at hm; exact absurd hm.symm e2
          | succ m => exact ⟨m, (step_back hc hq hx m).mp hm⟩
        · rintro ⟨m, hm⟩
          exact ⟨m + 1, (step_back hc hq hx m).mpr hm⟩
      rw [if_neg (c := e.1 = (q, i)) (fun z => e2 (congrArg Prod.fst z))]
      by_cases e3 : isBefore e.1.1 q c = true
      · rw [if_pos ⟨e1, e3⟩, if_pos ⟨e1, this.mp e3⟩]
        rfl
      · rw [if_neg (fun z => e3 z.2), if_neg (fun z => e3 (this.mpr z.2))]
        rfl
  · rw [if_neg (fun z => e1 z.1), if_neg (fun z => e1 z.1), if_neg (fun z => e1 (congrArg Prod.snd z))]
    rfl
end K35
/-! text M6 -/
set_option Elab.async false
set_option linter.all false
set_option maxRecDepth 100000
set_option maxHeartbeats 4000000
/-! plain law 6: the word that summed and word_of make -/
namespace K35
open PySem PySem.Spec PyProof.Rows L2
theorem sm_KL {n : Nat} {l : WE} (h : KL n l) {k : Place × Nat} (hk : k.1.length ≠ n) : sm l k = 0 := lin_zero fun e he => if_neg fun z => hk (by rw [← z]; exact h e he)
theorem chain_KL {g : WE} {c : Place} {n : Nat} (hc : c.length = n) (i : Nat) (r : Int) : ∀ (f : Nat) (p : Place), p.length = n → ∀ s ∈ chainF g c i r f p, s.1.length = n
  | 0, _, _, s, hs => nomatch hs
  | f + 1, p, hp, s, hs => by
    unfold chainF at hs
    rcases List.mem_cons.mp hs with rfl | hs
    · exact hp
    · split at hs
      · cases hs
      · exact chain_KL hc i r f _ (addP_l hp hc) s hs
theorem summed_KL {g : WE} {c : Place} {n : Nat} (hl : KL n g) (hc : c.length = n) : KL n (kl (summedL g c)) := fun e he => by
  obtain ⟨s, hs, rfl⟩ := List.mem_map.mp he
  rw [summedL_eq] at hs
  obtain ⟨l, hl2, hs⟩ := List.mem_flatten.mp hs
  obtain ⟨s0, hs0, rfl⟩ := List.mem_map.mp hl2
  unfold chOf at hs
  split at hs
  · cases hs
  · exact chain_KL hc _ _ _ _ (hl _ (mem_stS.mp hs0)) s hs
/-- G less the same one moved by the counts is the gap -/
theorem G_step {g : WE} {c : Place} {n : Nat} (hg : Can g) (hl : KL n g) (hc : c.length = n) (hz : isZ c = false) (hst : ∀ s ∈ stS g, sumLeft (stS g) s.1 s.2.1 c ≠ 0 → Stops g c s.2.1 fuel s.1) (φ : Place × Nat → Int) :
    lin φ (kl (summedL g c)) = lin (fun x => φ (shK c x)) (kl (summedL g c)) + lin φ g := by
  have hk := summed_KL hl hc
  have : ∀ k, sm (kl (summedL g c)) k = sm (pushE (shK c) (kl (summedL g c)) ++ g) k := by
    intro k
    obtain ⟨q, i⟩ := k
    show _ = lin _ _
    rw [lin_app]
    by_cases hq : q.length = n
    · rw [summed_sm hg hl hc hz hst hq i, Gs_step hl hc hz hq i, ← summed_sm hg hl hc hz hst (subP_l hq hc) i, lin_push]
      congr 1
      refine lin_congr fun e he => ?_
      have hx := hk e he
      unfold ind
      by_cases h : e.1 = (subP q c, i)
      · rw [if_pos h, if_pos]
        show ((addP e.1.1 c, e.1.2) : Place × Nat) = (q, i)
        rw [h]
        show ((addP (subP q c) c, i) : Place × Nat) = (q, i)
        rw [sub_addP hq hc]
      · rw [if_neg h, if_neg]
        intro z
        have z1 : addP e.1.1 c = q := congrArg Prod.fst z
        have z2 : e.1.2 = i := congrArg Prod.snd z
        apply h
        rw [← z1, ← z2, add_subP hx hc]
    · rw [sm_KL hk hq]
      have h1 : lin (ind (q, i)) g = 0 := sm_KL hl hq
      have h2 : lin (ind (q, i)) (pushE (shK c) (kl (summedL g c))) = 0 := sm_KL (n := n) (fun e he => by
        obtain ⟨x, hx, rfl⟩ := List.mem_map.mp he
        exact addP_l (hk x hx) hc) hq
      omega
  rw [lin_ext φ this, lin_app, lin_push]
theorem sumW_can (n : Nat) (u v : Wd) (d : Place) : Can (sumW n u v d) ∧ ∀ φ, lin φ (sumW n u v d) = lin φ (kl (summedL (gapW n u v d) (counts n u))) := by
  obtain ⟨h1, h2⟩ := can_mkW [] (summedL (gapW n u v d) (counts n u))
  refine ⟨h1, fun φ => ?_⟩
  have := lin_ext φ h2
  rw [push_nil] at this
  exact this
/-! ends -/
def bdF (ψ : Place → Int) : Place × Nat → Int := fun x => ψ (stp x.1 x.2 1) - ψ x.1
theorem fw_bd {n : Nat} (ψ : Place → Int) : ∀ {w : Wd} {p : Place}, WF n w → p.length = n → fw (bdF ψ) p w = ψ (endP p w) - ψ p
  | [], p, _, _ => by show (0 : Int) = ψ p - ψ p; omega
  | g :: w, p, hw, h => by
    have hg := hw g (List.mem_cons_self ..)
    rw [fw_cons, fw_bd (w := w) ψ (fun x hx => hw x (List.mem_cons_of_mem _ hx)) (stp_l _ h hg)]
    have : fw (bdF ψ) p [g] = ψ (stp p g.1 (sgn g.2)) - ψ p := by
      obtain ⟨i, b⟩ := g
      have h2 := stp_stp (-1) h hg
      cases b
      · simp only [fw, streetsOf, kl, lin, sgn, bdF, List.map_cons, List.map_nil]
        simp at h2
        show (ψ (stp (stp p i (-1)) i 1) - ψ (stp p i (-1))) * -1 + 0 = ψ (stp p i (-1)) - ψ p
        rw [h2]
        omega
      · show (ψ (stp p i 1) - ψ p) * 1 + 0 = ψ (stp p i 1) - ψ p
        omega
    rw [this]
    show _ = ψ (endP (stp p g.1 (sgn g.2)) w) - ψ p
    omega
def plE (l : WE) : List (Place × Int) := (l.map fun e => [(stp e.1.1 e.1.2 1, e.2), (e.1.1, -e.2)]).flatten
theorem lin_pl (ψ : Place → Int) (l : WE) : lin ψ (plE l) = lin (bdF ψ) l := by
  induction l with
  | nil => rfl
  | cons e l ih =>
    have : plE (e :: l) = [(stp e.1.1 e.1.2 1, e.2), (e.1.1, -e.2)] ++ plE l := rfl
    rw [this, lin_app, ih]
    show ψ (stp e.1.1 e.1.2 1) * e.2 + (ψ e.1.1 * -e.2 + 0) + _ = (ψ (stp e.1.1 e.1.2 1) - ψ e.1.1) * e.2 + _
    rw [Int.sub_mul, Int.mul_neg]
    omega
/-- what is the same when moved by the counts is zero -/
theorem per_zero {c : Place} {n : Nat} (hc : c.length = n) (hz : isZ c = false) {h : List (Place × Int)} (hl : ∀ e ∈ h, e.1.length = n) (hp : ∀ ψ : Place → Int, lin ψ h = lin (fun x => ψ (addP x c)) h) (p : Place) : sm h p = 0 := by
  by_cases hpl : p.length = n
  · have step : ∀ q : Place, q.length = n → sm h q = sm h (subP q c) := fun q hq => by
      have := hp (ind q)
      refine this.trans (lin_congr fun e he => ?_)
      unfold ind
      by_cases z : e.1 = subP q c
      · rw [if_pos z, if_pos (by rw [z, sub_addP hq hc])]
      · rw [if_neg z, if_neg]
        intro y
        apply z
        rw [← y, add_subP (hl e he) hc]
    have many : ∀ m : Nat, ∃ q : Place, q.length = n ∧ p = addP q (mulP m c) ∧ sm h p = sm h q := by
      intro m
      induction m with
      | zero => exact ⟨p, hpl, (mulP_zero hc hpl).symm, rfl⟩
      | succ m ih =>
        obtain ⟨q, h1, h2, h3⟩ := ih
        refine ⟨subP q c, subP_l h1 hc, ?_, h3.trans (step q h1)⟩
        rw [← mulP_succ c hc m (subP_l h1 hc), sub_addP h1 hc]
        exact h2
    refine Classical.byContradiction fun hne => ?_
    have hll := lead_lt hz
    have hln := lead_ne hz
    obtain ⟨N, hN⟩ : ∃ N : Nat, ∀ e ∈ h, (e.1.getD (leadP c) 0).natAbs ≤ N := by
      clear hl hp step many hne
      induction h with
      | nil => exact ⟨0, fun e he => nomatch he⟩
      | cons a h ih =>
        obtain ⟨N, hN⟩ := ih
        refine ⟨N + (a.1.getD (leadP c) 0).natAbs, fun e he => ?_⟩
        rcases List.mem_cons.mp he with rfl | he
        · omega
        · have := hN e he
          omega
    obtain ⟨q, h1, h2, h3⟩ := many (N + (p.getD (leadP c) 0).natAbs + 1)
    obtain ⟨e, he, hk⟩ := mem_key (es := h) (k := q) (by rw [← h3]; exact hne)
    have h4 := hN e he
    rw [hk] at h4
    have h5 : p.getD (leadP c) 0 = q.getD (leadP c) 0 + ((N + (p.getD (leadP c) 0).natAbs + 1 : Nat) : Int) * lead c := by
      have := congrArg (fun z => z.getD (leadP c) 0) h2
      rw [add_at (by omega) (by rw [mulP_l _ hc]; omega), mul_at] at this
      exact this
    generalize p.getD (leadP c) 0 = x at h4 h5
    have h6 : (((N + x.natAbs + 1 : Nat) : Int) * lead c).natAbs = x.natAbs + N + 1 + ((N + x.natAbs + 1) * ((lead c).natAbs - 1)) := by
      rw [Int.natAbs_mul]
      have : (((N + x.natAbs + 1 : Nat)) : Int).natAbs = N + x.natAbs + 1 := by omega
      rw [this]
      obtain ⟨k, hk⟩ : ∃ k, (lead c).natAbs = k + 1 := ⟨(lead c).natAbs - 1, by omega⟩
      rw [hk, Nat.mul_add]
      simp
      omega
    generalize ((N + x.natAbs + 1 : Nat) : Int) * lead c = y at h5 h6
    generalize (N + x.natAbs + 1) * ((lead c).natAbs - 1) = z at h6
    omega
  · exact lin_zero fun e he => if_neg fun z => hpl (by rw [← z]; exact hl e he)
/-- how the walk of summed ends -/
theorem G_ends {n : Nat} {u v : Wd} {d : Place} (hu : WF n u) (hv : WF n v) (hd : d.length = n) (hcc : counts n u = counts n v) (hz : isZ (counts n u) = false) (hl : KL n (gapW n u v d)) (hlG : ∀ e ∈ kl (summedL (gapW n u v d) (counts n u)), e.1.1.length = n ∧ e.1.2 < n)
    (hst : ∀ s ∈ stS (gapW n u v d), sumLeft (stS (gapW n u v d)) s.1 s.2.1 (counts n u) ≠ 0 → Stops (gapW n u v d) (counts n u) s.2.1 fuel s.1) (ψ : Place → Int) : lin (bdF ψ) (sumW n u v d) = ψ d - ψ (zeroP n) := by
  have hc := counts_len n u
  obtain ⟨g1, g2⟩ := gap_can n u v d
  obtain ⟨w1, w2⟩ := sumW_can n u v d
  have hzl := zeroP_len n
  have key : ∀ p, sm (plE (kl (summedL (gapW n u v d) (counts n u))) ++ [(d, -1), (zeroP n, 1)]) p = 0 := by
    refine per_zero hc hz (fun e he => ?_) (fun ψ => ?_)
    · rcases List.mem_append.mp he with he | he
      · obtain ⟨l, h1, h2⟩ := List.mem_flatten.mp he
        obtain ⟨x, hx, rfl⟩ := List.mem_map.mp h1
        obtain ⟨a, b⟩ := hlG x hx
        rcases List.mem_cons.mp h2 with rfl | h2
        · exact stp_l _ a b
        · rw [List.mem_singleton.mp h2]
          exact a
      · rcases List.mem_cons.mp he with rfl | he
        · exact hd
        · rw [List.mem_singleton.mp he]
          exact hzl
    · rw [lin_app, lin_app, lin_pl, lin_pl, G_step g1 hl hc hz hst (bdF ψ), g2, fw_bd ψ hv hzl, fw_bd ψ hu hd, endP_eq hv hzl, endP_eq hu hd, zero_add (counts_len _ _), ← hcc]
      have e1 : lin (fun x => bdF ψ (shK (counts n u) x)) (kl (summedL (gapW n u v d) (counts n u))) = lin (bdF fun x => ψ (addP x (counts n u))) (kl (summedL (gapW n u v d) (counts n u))) := by
        refine lin_congr fun e he => ?_
        obtain ⟨a, b⟩ := hlG e he
        show ψ (stp (addP e.1.1 (counts n u)) e.1.2 1) - ψ (addP e.1.1 (counts n u)) = ψ (addP (stp e.1.1 e.1.2 1) (counts n u)) - ψ (addP e.1.1 (counts n u))
        rw [stp_add _ a hc b]
      rw [e1]
      have e2 : ∀ χ : Place → Int, lin χ [(d, -1), (zeroP n, 1)] = χ (zeroP n) - χ d := fun χ => by
        show χ d * -1 + (χ (zeroP n) * 1 + 0) = _
        omega
      rw [e2, e2, zero_add hc]
      omega
  have h0 := lin_of_zero ψ _ _ (Nat.le_refl _) key
  rw [lin_app, lin_pl] at h0
  have e2 : lin ψ [(d, -1), (zeroP n, 1)] = ψ (zeroP n) - ψ d := by
    show ψ d * -1 + (ψ (zeroP n) * 1 + 0) = _
    omega
  rw [w2]
  omega
/-! end_of -/
theorem endsD_sm (es : WE) : ((endsD [] es).map (·.1)).Nodup ∧ ∀ p, sm (endsD [] es) p = sm (plE es) p := by
  have key : ∀ (es : WE) (dd : List (Place × Int)), (dd.map (·.1)).Nodup → ((es.foldl (eStep []) dd).map (·.1)).Nodup ∧ ∀ p, sm (es.foldl (eStep []) dd) p = sm dd p + sm (plE es) p := by
    intro es
    induction es with
    | nil => exact fun dd h => ⟨h, fun p => by show sm dd p = sm dd p + 0; omega⟩
    | cons e es ih =>
      intro dd h
      have hput : ∀ (dd : List (Place × Int)) (k : Place) (x : Int), (dd.map (·.1)).Nodup → ∀ p, sm (putE dd k ((getE dd k).getD 0 + x)) p = sm dd p + ind p k * x := by
        intro dd k x h p
        rw [sm_val (nodup_putE h _ _), sm_val h, getE_put]
        unfold ind
        by_cases q : k = p
        · subst q
          rw [if_pos rfl, if_pos rfl]
          simp
        · rw [if_neg q, if_neg q]
          omega
      have h1 := nodup_putE h (stp e.1.1 e.1.2 1) ((getE dd (stp e.1.1 e.1.2 1)).getD 0 + e.2)
      have h2 := nodup_putE h1 e.1.1 ((getE (putE dd (stp e.1.1 e.1.2 1) ((getE dd (stp e.1.1 e.1.2 1)).getD 0 + e.2)) e.1.1).getD 0 + -e.2)
      obtain ⟨a, b⟩ := ih (eStep [] dd e) h2
      refine ⟨a, fun p => ?_⟩
      rw [List.foldl_cons, b]
      have e1 : sm (eStep [] dd e) p = sm dd p + ind p (stp e.1.1 e.1.2 1) * e.2 + ind p e.1.1 * -e.2 := by
        refine (hput _ e.1.1 (-e.2) h1 p).trans ?_
        rw [hput dd _ e.2 h p]
      have e2 : sm (plE (e :: es)) p = ind p (stp e.1.1 e.1.2 1) * e.2 + (ind p e.1.1 * -e.2 + sm (plE es) p) := rfl
      rw [e1, e2]
      omega
  obtain ⟨h1, h2⟩ := key es [] .nil
  refine ⟨h1, fun p => ?_⟩
  have h3 := h2 p
  have h0 : sm ([] : List (Place × Int)) p = 0 := rfl
  rw [h0, Int.zero_add] at h3
  exact h3
theorem ends_perm (es : WE) : (ends [] es).Perm ((endsD [] es).filter fun e => e.2 != 0) := isort_perm _
theorem sm_filter0' (es : List (Place × Int)) (k : Place) : sm (es.filter fun e => e.2 != 0) k = sm es k := by
  induction es with
  | nil => rfl
  | cons e es ih =>
    have h1 : sm (e :: es) k = ind k e.1 * e.2 + sm es k := rfl
    rw [List.filter_cons, h1]
    split
    · have h2 : sm (e :: es.filter fun e => e.2 != 0) k = ind k e.1 * e.2 + sm (es.filter fun e => e.2 != 0) k := rfl
      rw [h2, ih]
    · rename_i h
      have : e.2 = 0 := by simpa using h
      rw [ih, this]
      omega
theorem endOf_of {n : Nat} {es : WE} {d : Place} (h : ∀ ψ : Place → Int, lin (bdF ψ) es = ψ d - ψ (zeroP n)) : endOf n [] es = some d := by
  obtain ⟨h1, h2⟩ := endsD_sm es
  have hcan : Can ((endsD [] es).filter fun e => e.2 != 0) := ⟨List.Nodup.sublist (List.Sublist.map _ List.filter_sublist) h1, fun e he => by
    have := (List.mem_filter.mp he).2
    simpa using this⟩
  have hs : ∀ p, sm ((endsD [] es).filter fun e => e.2 != 0) p = ind p d - ind p (zeroP n) := fun p => by
    rw [sm_filter0', h2]
    show lin _ _ = _
    rw [lin_pl, h]
  have hp := ends_perm es
  rw [endOf_eq]
  by_cases hd : d = zeroP n
  · have : (endsD [] es).filter (fun e => e.2 != 0) = [] := (can_nil hcan).mpr fun p => by rw [hs, hd]; omega
    rw [this] at hp
    rw [if_pos hp.eq_nil, hd]
  · have hcan2 : Can [(d, (1 : Int)), (zeroP n, -1)] := ⟨by simp [hd], fun e he => by
      rcases List.mem_cons.mp he with rfl | he
      · show (1 : Int) ≠ 0
        decide
      · rw [List.mem_singleton.mp he]
        show (-1 : Int) ≠ 0
        decide⟩
    have hperm : (ends [] es).Perm [(d, (1 : Int)), (zeroP n, -1)] := hp.trans (can_perm hcan hcan2 fun p => by
      rw [hs]
      show _ = ind p d * 1 + (ind p (zeroP n) * -1 + 0)
      omega)
    generalize ends [] es = E at hperm
    have hlen := hperm.length_eq
    have hg : goalsOf E = [d] := by
      have : (goalsOf E).Perm [d] := by
        have := (hperm.filter fun x => x.2 == 1).map (·.1)
        exact this
      exact List.perm_singleton.mp this
    rw [if_neg, if_pos]
    · rw [hg]
      rfl
    · refine ⟨hlen, hperm.mem_iff.mpr (by simp), by rw [hg]; rfl⟩
    · intro q
      rw [q] at hlen
      cases hlen
/-! word_of -/
theorem flip_flip (g : Sg) : flip (flip g) = g := by
  obtain ⟨i, b⟩ := g
  cases b <;> rfl
theorem shortF_fw {n : Nat} (φ : Place × Nat → Int) {acc : Wd} {g : Sg} {p : Place} (ha : WF n acc) (hg : g.1 < n) (hp : p.length = n) : fw φ p (shortF acc g) = fw φ p (acc ++ [g]) ∧ endP p (shortF acc g) = endP p (acc ++ [g]) ∧ WF n (shortF acc g) := by
  unfold shortF
  split
  · rename_i h
    obtain ⟨l, rfl⟩ : ∃ l, acc = l ++ [flip g] := List.getLast?_eq_some_iff.mp h
    rw [List.dropLast_concat]
    have hl : WF n l := fun x hx => ha x (List.mem_append_left _ hx)
    have hf : WF n [flip g] := fun x hx => by rw [List.mem_singleton.mp hx]; exact hg
    have hq := endP_l hl hp
    have hi : inv [flip g] = [g] := by simp [inv, flip_flip]
    refine ⟨?_, ?_, hl⟩
    · rw [List.append_assoc, fw_app, fw_app]
      have := fw_inv φ hf hq
      rw [hi] at this
      rw [this]
      omega
    · rw [List.append_assoc, endP_app, endP_app]
      have := endP_inv hf hq
      rw [hi] at this
      exact this.symm
  · exact ⟨rfl, rfl, wf_app ha fun x hx => by rw [List.mem_singleton.mp hx]; exact hg⟩
theorem short_fw {n : Nat} (φ : Place × Nat → Int) {w : Wd} {p : Place} (hw : WF n w) (hp : p.length = n) : fw φ p (short w) = fw φ p w ∧ endP p (short w) = endP p w ∧ WF n (short w) := by
  have key : ∀ (w acc : Wd), WF n w → WF n acc → fw φ p (w.foldl shortF acc) = fw φ p (acc ++ w) ∧ endP p (w.foldl shortF acc) = endP p (acc ++ w) ∧ WF n (w.foldl shortF acc) := by
    intro w
    induction w with
    | nil => exact fun acc _ ha => by rw [List.append_nil]; exact ⟨rfl, rfl, ha⟩
    | cons g w ih =>
      intro acc hw ha
      obtain ⟨h1, h2, h3⟩ := shortF_fw φ (acc := acc) (g := g) ha (hw g (List.mem_cons_self ..)) hp
      obtain ⟨i1, i2, i3⟩ := ih (shortF acc g) (fun x hx => hw x (List.mem_cons_of_mem _ hx)) h3
      refine ⟨?_, ?_, i3⟩
      · rw [List.foldl_cons, i1, fw_app, h1, h2, ← fw_app, List.append_assoc]
        rfl
      · rw [List.foldl_cons, i2, endP_app, h2, ← endP_app, List.append_assoc]
        rfl
  exact key w [] hw fun g hg => nomatch hg
theorem road_zero (n : Nat) : road (zeroP n) = [] := by
  have key : ∀ (n i : Nat), roadFrom i (zeroP n) = [] := by
    intro n
    induction n with
    | zero => exact fun i => rfl
    | succ n ih =>
      intro i
      have : zeroP (n + 1) = 0 :: zeroP n := rfl
      rw [this]
      unfold roadFrom
      rw [ih]
      rfl
  exact key n 0
theorem endP_road {n : Nat} {p : Place} (hp : p.length = n) : endP (zeroP n) (road p) = p := by
  rw [endP_eq (road_wf hp) (zeroP_len n), counts_road hp, zero_add hp]
def rdF (φ : Place × Nat → Int) (n : Nat) (q : Place) : Int := fw φ (zeroP n) (road q)
theorem part0_fw {n : Nat} (φ : Place × Nat → Int) {s : St3} (h1 : s.1.length = n) (h2 : s.2.1 < n) : fw φ (zeroP n) (part0 s) = φ (s.1, s.2.1) - bdF (rdF φ n) (s.1, s.2.1) ∧ endP (zeroP n) (part0 s) = zeroP n := by
  have hz := zeroP_len n
  have hq := stp_l 1 h1 h2
  have hr := endP_road h1
  have hr2 := endP_road hq
  have e1 : endP (zeroP n) (road s.1 ++ [(s.2.1, true)]) = stp s.1 s.2.1 1 := by rw [endP_app, hr]; rfl
  unfold part0
  constructor
  · rw [fw_app, fw_app, e1, hr]
    have h3 := fw_inv φ (road_wf hq) hz
    rw [hr2] at h3
    rw [h3]
    have h4 : fw φ s.1 [(s.2.1, true)] = φ (s.1, s.2.1) := by simp [fw, streetsOf, kl, lin]
    rw [h4]
    show rdF φ n s.1 + φ (s.1, s.2.1) + - rdF φ n (stp s.1 s.2.1 1) = φ (s.1, s.2.1) - (rdF φ n (stp s.1 s.2.1 1) - rdF φ n s.1)
    omega
  · rw [endP_app, e1]
    have h3 := endP_inv (road_wf hq) hz
    rw [hr2] at h3
    exact h3
theorem loops_fw {n : Nat} (φ : Place × Nat → Int) {l : Wd} (he : endP (zeroP n) l = zeroP n) : ∀ m : Nat, fw φ (zeroP n) (List.replicate m l).flatten = m * fw φ (zeroP n) l ∧ endP (zeroP n) (List.replicate m l).flatten = zeroP n
  | 0 => by simp [fw, streetsOf, kl, lin, endP]
  | m + 1 => by
    obtain ⟨h1, h2⟩ := loops_fw φ he m
    rw [List.replicate_succ, List.flatten_cons, fw_app, endP_app, he, h1, h2]
    refine ⟨?_, rfl⟩
    rw [Int.natCast_add, Int.add_mul]
    omega
theorem part_fw {n : Nat} (φ : Place × Nat → Int) {s : St3} (h1 : s.1.length = n) (h2 : s.2.1 < n) : fw φ (zeroP n) (partOf s) = (φ (s.1, s.2.1) - bdF (rdF φ n) (s.1, s.2.1)) * s.2.2 ∧ endP (zeroP n) (partOf s) = zeroP n := by
  obtain ⟨a, b⟩ := part0_fw φ h1 h2
  have hz := zeroP_len n
  have hw := part0_wf h1 h2
  rw [partOf_eq]
  by_cases hp : s.2.2 > 0
  · rw [if_pos hp]
    obtain ⟨c1, c2⟩ := loops_fw φ b s.2.2.natAbs
    rw [c1, a]
    refine ⟨?_, c2⟩
    have : ((s.2.2.natAbs : Nat) : Int) = s.2.2 := by omega
    rw [this, Int.mul_comm]
  · rw [if_neg hp]
    have h3 := fw_inv φ hw hz
    have h4 := endP_inv hw hz
    rw [b] at h3 h4
    obtain ⟨c1, c2⟩ := loops_fw φ h4 s.2.2.natAbs
    rw [c1, h3, a]
    refine ⟨?_, c2⟩
    have : ((s.2.2.natAbs : Nat) : Int) = - s.2.2 := by omega
    rw [this, Int.neg_mul_neg, Int.mul_comm]
theorem parts_fw {n : Nat} (φ : Place × Nat → Int) : ∀ {ss : List St3}, SOk n ss → fw φ (zeroP n) (ss.map partOf).flatten = lin (fun x => φ x - bdF (rdF φ n) x) (kl ss) ∧ endP (zeroP n) (ss.map partOf).flatten = zeroP n
  | [], _ => ⟨rfl, rfl⟩
  | s :: ss, h => by
    obtain ⟨l1, l2⟩ := h s (List.mem_cons_self ..)
    obtain ⟨a, b⟩ := part_fw φ l1 l2
    obtain ⟨c, d⟩ := parts_fw φ (ss := ss) fun x hx => h x (List.mem_cons_of_mem _ hx)
    rw [List.map_cons, List.flatten_cons, fw_app, endP_app, b, a, c, d]
    exact ⟨rfl, rfl⟩
/-- the word that word_of makes has the walk, and ends where the walk ends -/
theorem word_fw {n : Nat} (φ : Place × Nat → Int) {es : WE} {d : Place} (hk : KOk n es) (hd : d.length = n) (hb : ∀ ψ : Place → Int, lin (bdF ψ) es = ψ d - ψ (zeroP n)) : fw φ (zeroP n) (wordOf es d) = lin φ es ∧ counts n (wordOf es d) = d ∧ WF n (wordOf es d) := by
  have hz := zeroP_len n
  have hso := sok_stS hk
  have hwf : WF n (((stS es).map partOf).flatten ++ road d) := by
    refine wf_app (flat_wf fun v hv => ?_) (road_wf hd)
    obtain ⟨s, hs, rfl⟩ := List.mem_map.mp hv
    exact partOf_wf (hso s hs).1 (hso s hs).2
  obtain ⟨s1, s2, s3⟩ := short_fw φ hwf hz
  obtain ⟨a, b⟩ := parts_fw φ hso
  have he : endP (zeroP n) (((stS es).map partOf).flatten ++ road d) = d := by rw [endP_app, b, endP_road hd]
  refine ⟨?_, ?_, s3⟩
  · show fw φ (zeroP n) (short _) = _
    rw [s1, fw_app, a, b, lin_perm _ (kl_stS es), lin_sub, hb]
    have : rdF φ n (zeroP n) = 0 := by
      unfold rdF
      rw [road_zero]
      rfl
    rw [this]
    show lin φ es - (rdF φ n d - 0) + rdF φ n d = lin φ es
    omega
  · have h1 := endP_eq s3 hz
    rw [zero_add (counts_len _ _)] at h1
    show counts n (short _) = d
    rw [← h1, s2, he]
end K35
/-! text M7 -/
set_option Elab.async false
set_option linter.all false
set_option maxRecDepth 100000
set_option maxHeartbeats 4000000
/-! plain law 7: bounds -/
namespace K35
open PySem PySem.Spec PyProof.Rows L2
theorem bq_at {B : Nat} {p : Place} (h : Bq B p) (i : Nat) : (p.getD i 0).natAbs ≤ B := by
  rw [List.getD_eq_getElem?_getD]
  cases e : p[i]? with
  | none => exact Nat.zero_le _
  | some y => exact h y (List.mem_of_getElem? e)
theorem bq_of {B : Nat} {p : Place} (h : ∀ i, i < p.length → (p.getD i 0).natAbs ≤ B) : Bq B p := fun x hx => by
  obtain ⟨i, hi, rfl⟩ := List.getElem_of_mem hx
  have := h i hi
  rw [List.getD_eq_getElem?_getD, List.getElem?_eq_getElem hi] at this
  exact this
theorem bq_add {B C n : Nat} {p q : Place} (hp : p.length = n) (hq : q.length = n) (h1 : Bq B p) (h2 : Bq C q) : Bq (B + C) (addP p q) := bq_of fun i hi => by
  rw [addP_l hp hq] at hi
  rw [add_at (by omega) (by omega)]
  have := bq_at h1 i
  have := bq_at h2 i
  omega
theorem bq_sub {B C n : Nat} {p q : Place} (hp : p.length = n) (hq : q.length = n) (h1 : Bq B p) (h2 : Bq C q) : Bq (B + C) (subP p q) := bq_of fun i hi => by
  rw [subP_l hp hq] at hi
  rw [sub_at (by omega) (by omega)]
  have := bq_at h1 i
  have := bq_at h2 i
  omega
theorem bq_red {B C n : Nat} {c p : Place} (hc : c.length = n) (hp : p.length = n) (h1 : Bq B p) (h2 : Bq C c) : Bq (B + B * C) (redR (nrmR c) p) := by
  rcases nrm_cases c with ⟨h, e⟩ | ⟨h, e⟩
  · rw [e]
    exact h1.mono (Nat.le_add_right _ _)
  · have hl : (nrm1 c).length = n := by rw [nrm1_len]; exact hc
    have hb := nrm1_bd h2
    rw [e]
    show Bq _ (red1 p (nrm1 c))
    unfold red1
    have hq : ((p.getD (leadP (nrm1 c)) 0).fdiv (lead (nrm1 c))).natAbs ≤ B := Nat.le_trans (Int.natAbs_fdiv_le_natAbs _ _) (bq_at h1 _)
    generalize (p.getD (leadP (nrm1 c)) 0).fdiv (lead (nrm1 c)) = q at hq
    refine bq_of fun i hi => ?_
    rw [subP_l hp (mulP_l q hl)] at hi
    rw [sub_at (by omega) (by rw [mulP_l q hl]; exact hi), mul_at]
    have h3 := bq_at h1 i
    have h4 : (q * (nrm1 c).getD i 0).natAbs ≤ B * C := by
      rw [Int.natAbs_mul]
      exact Nat.mul_le_mul hq (bq_at hb i)
    omega
theorem road_len {B : Nat} : ∀ {p : Place}, Bq B p → (road p).length ≤ p.length * B := by
  have key : ∀ (p : Place) (i : Nat), Bq B p → (roadFrom i p).length ≤ p.length * B := by
    intro p
    induction p with
    | nil => exact fun i _ => Nat.zero_le _
    | cons v p ih =>
      intro i h
      have h1 := ih (i + 1) fun x hx => h x (List.mem_cons_of_mem _ hx)
      have h2 := h v (List.mem_cons_self ..)
      have h3 : (roadI i v).length ≤ B := by
        unfold roadI
        split <;> rw [List.length_replicate] <;> omega
      unfold roadFrom
      rw [List.length_append, List.length_cons, Nat.succ_mul]
      omega
  intro p h
  exact key p 0 h
/-- the keys of a walk -/
def KB (B : Nat) (l : WE) : Prop := ∀ e ∈ l, Bq B e.1.1
theorem kb_of {B : Nat} {es l : WE} (h : Can es) (hs : ∀ k, sm es k = sm l k) (hl : KB B l) : KB B es := fun e he => by
  obtain ⟨h1, h2⟩ := (mem_can h).mp (show (e.1, e.2) ∈ es from he)
  obtain ⟨x, hx, hk⟩ := mem_key (es := l) (k := e.1) (by rw [← hs, h2]; exact h1)
  rw [← hk]
  exact hl x hx
theorem kl_of {n : Nat} {es l : WE} (h : Can es) (hs : ∀ k, sm es k = sm l k) (hl : KL n l) : KL n es := fun e he => by
  obtain ⟨h1, h2⟩ := (mem_can h).mp (show (e.1, e.2) ∈ es from he)
  obtain ⟨x, hx, hk⟩ := mem_key (es := l) (k := e.1) (by rw [← hs, h2]; exact h1)
  rw [← hk]
  exact hl x hx
theorem kb_word {B : Nat} {p : Place} (w : Wd) (hp : Bq B p) : KB (B + w.length) (kl (streetsOf p w)) := fun e he => by
  obtain ⟨s, hs, rfl⟩ := List.mem_map.mp he
  exact streets_bd w B p hp s hs
theorem kb_push {n B C : Nat} {c : Place} {l : WE} (hc : c.length = n) (h1 : KL n l) (h2 : KB B l) (h3 : Bq C c) : KB (B + B * C) (pushE (redK (nrmR c)) l) := fun e he => by
  obtain ⟨x, hx, rfl⟩ := List.mem_map.mp he
  exact bq_red hc (h1 x hx) (h2 x hx) h3
/-- the absolute numbers of a walk -/
def absum {κ : Type} : List (κ × Int) → Nat
  | [] => 0
  | e :: l => e.2.natAbs + absum l
theorem absum_app {κ : Type} (a b : List (κ × Int)) : absum (a ++ b) = absum a + absum b := by
  induction a with
  | nil => simp [absum]
  | cons e a ih => rw [List.cons_append, absum, absum, ih]; omega
theorem lin_abs {κ : Type} {φ : κ → Int} (h : ∀ x, (φ x).natAbs ≤ 1) (l : List (κ × Int)) : (lin φ l).natAbs ≤ absum l := by
  induction l with
  | nil => exact Nat.le_refl _
  | cons e l ih =>
    rw [lin, absum]
    have h1 : (φ e.1 * e.2).natAbs ≤ e.2.natAbs := by
      rw [Int.natAbs_mul]
      have := Nat.mul_le_mul_right e.2.natAbs (h e.1)
      omega
    omega
def sg1 (x : Int) : Int := if x > 0 then 1 else if x < 0 then -1 else 0
theorem can_abs {es : WE} (h : Can es) : (absum es : Int) = lin (fun k => sg1 (sm es k)) es := by
  have key : ∀ l : WE, (∀ e ∈ l, e ∈ es) → (absum l : Int) = lin (fun k => sg1 (sm es k)) l := by
    intro l
    induction l with
    | nil => exact fun _ => rfl
    | cons e l ih =>
      intro hs
      have h1 := ih fun x hx => hs x (List.mem_cons_of_mem _ hx)
      obtain ⟨g1, g2⟩ := (mem_can h).mp (show (e.1, e.2) ∈ es from hs e (List.mem_cons_self ..))
      rw [absum, lin, ← h1, g2]
      unfold sg1
      split
      · omega
      · split
        · omega
        · omega
  exact key es fun _ h => h
theorem sg1_le (x : Int) : (sg1 x).natAbs ≤ 1 := by
  unfold sg1
  split
  · decide
  · split <;> decide
theorem abs_le {es l : WE} (h : Can es) (hs : ∀ φ : Place × Nat → Int, lin φ es = lin φ l) : absum es ≤ absum l := by
  have h1 := can_abs h
  rw [hs] at h1
  have h2 := lin_abs (φ := fun k => sg1 (sm es k)) (fun x => sg1_le _) l
  omega
theorem abs_word (w : Wd) (p : Place) : absum (kl (streetsOf p w)) = w.length := by
  induction w generalizing p with
  | nil => rfl
  | cons g w ih =>
    rw [streets_cons]
    show (hdS p g).2.2.natAbs + absum (kl (streetsOf (stp p g.1 (sgn g.2)) w)) = _
    rw [ih]
    unfold hdS
    split
    · show 1 + _ = _
      rw [List.length_cons]; omega
    · show 1 + _ = _
      rw [List.length_cons]; omega
theorem gap_abs (n : Nat) (u v : Wd) (d : Place) : absum (gapW n u v d) ≤ u.length + v.length := by
  obtain ⟨h1, h2⟩ := gap_can n u v d
  have h3 := can_abs h1
  rw [h2] at h3
  have h4 := lin_abs (φ := fun k => sg1 (sm (gapW n u v d) k)) (fun x => sg1_le _) (kl (streetsOf (zeroP n) v))
  have h5 := lin_abs (φ := fun k => sg1 (sm (gapW n u v d) k)) (fun x => sg1_le _) (kl (streetsOf d u))
  rw [abs_word] at h4 h5
  unfold fw at h3
  omega
theorem mem_abs {κ : Type} {l : List (κ × Int)} {e : κ × Int} (h : e ∈ l) : e.2.natAbs ≤ absum l := by
  induction l with
  | nil => cases h
  | cons a l ih =>
    rw [absum]
    rcases List.mem_cons.mp h with rfl | h
    · omega
    · have := ih h
      omega
/-! the chains -/
theorem stops_of {g : WE} {c : Place} {i n : Nat} (hc : c.length = n) : ∀ (f j : Nat) (p : Place), p.length = n → 1 ≤ j → j ≤ f → (getE g (addP p (mulP j c), i)).getD 0 ≠ 0 → Stops g c i f p
  | 0, j, p, _, h1, h2, _ => by omega
  | f + 1, j, p, hp, h1, h2, h => by
    obtain ⟨k, rfl⟩ : ∃ k, j = k + 1 := ⟨j - 1, by omega⟩
    rw [← mulP_succ c hc k hp] at h
    cases k with
    | zero =>
      rw [mulP_zero hc (addP_l hp hc)] at h
      exact .inl h
    | succ k => exact .inr (stops_of hc f (k + 1) (addP p c) (addP_l hp hc) (by omega) (by omega) h)
theorem chain_to {g : WE} {c : Place} {i n : Nat} {r : Int} (hc : c.length = n) : ∀ (f j : Nat) (p : Place), p.length = n → 1 ≤ j → (getE g (addP p (mulP j c), i)).getD 0 ≠ 0 → (chainF g c i r f p).length ≤ j ∧ ∀ s ∈ chainF g c i r f p, s.2.2 = r ∧ ∃ m : Nat, m < j ∧ s.1 = addP p (mulP m c)
  | 0, j, p, _, h1, _ => ⟨Nat.zero_le _, fun s hs => nomatch hs⟩
  | f + 1, j, p, hp, h1, h => by
    obtain ⟨k, rfl⟩ : ∃ k, j = k + 1 := ⟨j - 1, by omega⟩
    rw [← mulP_succ c hc k hp] at h
    unfold chainF
    by_cases hv : (getE g (addP p c, i)).getD 0 ≠ 0
    · rw [if_pos hv]
      refine ⟨by simp, fun s hs => ?_⟩
      rw [List.mem_singleton.mp hs]
      exact ⟨rfl, 0, by omega, (mulP_zero hc hp).symm⟩
    · rw [if_neg hv]
      cases k with
      | zero =>
        rw [mulP_zero hc (addP_l hp hc)] at h
        exact absurd h hv
      | succ k =>
        obtain ⟨a, b⟩ := chain_to (r := r) hc f (k + 1) (addP p c) (addP_l hp hc) (by omega) h
        refine ⟨by rw [List.length_cons]; omega, fun s hs => ?_⟩
        rcases List.mem_cons.mp hs with rfl | hs
        · exact ⟨rfl, 0, by omega, (mulP_zero hc hp).symm⟩
        · obtain ⟨b1, m, b2, b3⟩ := b s hs
          exact ⟨b1, m + 1, by omega, by rw [b3, mulP_succ c hc m hp]⟩
/-- between two places along the counts -/
theorem bq_between {B n : Nat} {c p : Place} (hc : c.length = n) (hp : p.length = n) {m j : Nat} (hm : m ≤ j) (h1 : Bq B p) (h2 : Bq B (addP p (mulP j c))) : Bq B (addP p (mulP m c)) := bq_of fun i hi => by
  rw [addP_l hp (mulP_l _ hc)] at hi
  have a := bq_at h1 i
  have b := bq_at h2 i
  rw [add_at (by omega) (by rw [mulP_l _ hc]; exact hi), mul_at] at b ⊢
  obtain ⟨k, rfl⟩ : ∃ k, j = m + k := ⟨j - m, by omega⟩
  rw [Int.natCast_add, Int.add_mul] at b
  generalize c.getD i 0 = x at b ⊢
  generalize p.getD i 0 = y at a b ⊢
  rcases Int.le_total 0 x with hx | hx
  · have h3 : 0 ≤ (m : Int) * x := Int.mul_nonneg (by omega) hx
    have h4 : 0 ≤ (k : Int) * x := Int.mul_nonneg (by omega) hx
    omega
  · have h3 : (m : Int) * x ≤ 0 := Int.mul_nonpos_of_nonneg_of_nonpos (by omega) hx
    have h4 : (k : Int) * x ≤ 0 := Int.mul_nonpos_of_nonneg_of_nonpos (by omega) hx
    omega
/-- steps along the counts are few -/
theorem steps_few {B n : Nat} {c p : Place} (hc : c.length = n) (hz : isZ c = false) (hp : p.length = n) {j : Nat} (h1 : Bq B p) (h2 : Bq B (addP p (mulP j c))) : j ≤ 2 * B := by
  have hll := lead_lt hz
  have hne := lead_ne hz
  have a := bq_at h1 (leadP c)
  have b := bq_at h2 (leadP c)
  rw [add_at (by omega) (by rw [mulP_l _ hc]; omega), mul_at] at b
  have h3 : ((j : Int) * c.getD (leadP c) 0).natAbs ≤ 2 * B := by omega
  rw [Int.natAbs_mul] at h3
  have h4 : 1 ≤ (c.getD (leadP c) 0).natAbs := by
    have : c.getD (leadP c) 0 ≠ 0 := hne
    omega
  have h5 := Nat.mul_le_mul_left j h4
  have h6 : ((j : Nat) : Int).natAbs = j := by omega
  rw [h6] at h3
  omega
/-- where the sum of those before is not zero, a street comes after -/
theorem next_street {g : WE} {c : Place} {n B : Nat} (hg : Can g) (hl : KL n g) (hb : KB B g) (hc : c.length = n) (hz : isZ c = false) (h0 : ∀ k, sm (pushE (redK (nrmR c)) g) k = 0) {s : St3} (hs : s ∈ stS g) (hr : Gs g c s.1 s.2.1 ≠ 0) :
    ∃ j : Nat, 1 ≤ j ∧ j ≤ 2 * B ∧ (getE g (addP s.1 (mulP j c), s.2.1)).getD 0 ≠ 0 ∧ Bq B (addP s.1 (mulP j c)) := by
  have hm := mem_stS.mp hs
  have hsl : s.1.length = n := hl _ hm
  have hsb : Bq B s.1 := hb _ hm
  refine Classical.byContradiction fun hno => hr ?_
  rw [← h0 (redR (nrmR c) s.1, s.2.1)]
  show _ = lin _ _
  rw [lin_push]
  refine lin_congr fun e he => ?_
  have hx := hl e he
  have hxb := hb e he
  unfold bfI ind
  by_cases e1 : e.1.2 = s.2.1
  · by_cases e2 : isBefore e.1.1 s.1 c = true
    · rw [if_pos ⟨e1, e2⟩, if_pos]
      obtain ⟨m, hm2⟩ := (before_iff hc hx hsl hz).mp e2
      show ((redR (nrmR c) e.1.1, e.1.2) : Place × Nat) = _
      rw [e1, hm2, red_add hc hx]
    · rw [if_neg (fun z => e2 z.2), if_neg]
      intro z
      have z1 : redR (nrmR c) e.1.1 = redR (nrmR c) s.1 := congrArg Prod.fst z
      obtain ⟨k1, q1⟩ := red_mul hc hx
      obtain ⟨k2, q2⟩ := red_mul hc hsl
      rw [q1, q2] at z1
      -- e = s + (k2 - k1) c
      have he1 : e.1.1 = addP s.1 (mulP (k2 - k1) c) := by
        refine place_ext hx (addP_l hsl (mulP_l _ hc)) fun i hi => ?_
        have := congrArg (fun z => z.getD i 0) z1
        rw [add_at (by omega) (by rw [mulP_l _ hc]; exact hi), add_at (by omega) (by rw [mulP_l _ hc]; exact hi), mul_at, mul_at] at this
        rw [add_at (by omega) (by rw [mulP_l _ hc]; exact hi), mul_at, Int.sub_mul]
        omega
      by_cases hk : k2 - k1 ≤ 0
      · apply e2
        rw [before_iff hc hx hsl hz]
        refine ⟨(k1 - k2).toNat, ?_⟩
        have ht : (((k1 - k2).toNat : Nat) : Int) = k1 - k2 := by omega
        rw [ht, he1]
        refine place_ext hsl (addP_l (addP_l hsl (mulP_l _ hc)) (mulP_l _ hc)) fun i hi => ?_
        rw [add_at (by rw [addP_l hsl (mulP_l _ hc)]; exact hi) (by rw [mulP_l _ hc]; exact hi), add_at (by omega) (by rw [mulP_l _ hc]; exact hi), mul_at, mul_at, Int.sub_mul, Int.sub_mul]
        omega
      · apply hno
        refine ⟨(k2 - k1).toNat, by omega, ?_, ?_, ?_⟩
        · refine steps_few hc hz hsl hsb ?_
          have ht : (((k2 - k1).toNat : Nat) : Int) = k2 - k1 := by omega
          rw [ht, ← he1]
          exact hxb
        · have ht : (((k2 - k1).toNat : Nat) : Int) = k2 - k1 := by omega
          rw [ht, ← he1, ← e1, getE_of hg.nd (show (e.1, e.2) ∈ g from he)]
          exact hg.nz e he
        · have ht : (((k2 - k1).toNat : Nat) : Int) = k2 - k1 := by omega
          rw [ht, ← he1]
          exact hxb
  · rw [if_neg (fun z => e1 z.1), if_neg]
    intro z
    exact e1 (congrArg Prod.snd z)
end K35
/-! text M8 -/
set_option Elab.async false
set_option linter.all false
set_option maxRecDepth 100000
set_option maxHeartbeats 4000000
/-! plain law 8: all that the law asks -/
namespace K35
open PySem PySem.Spec PyProof.Rows L2
theorem rolled_b {n a b : Nat} {u v : Wd} (hv : WF n v) (hcc : counts n u = counts n v) (ha : u.length ≤ a) (hb : v.length ≤ b) : KL n (rolledW n v) ∧ KB (b + b * a) (rolledW n v) := by
  obtain ⟨h1, h2⟩ := rolled_can n v
  have hc := counts_len n v
  have hz := zeroP_len n
  have hl : KL n (U n v) := kl_l hv hz
  have hcb : Bq a (counts n v) := by rw [← hcc]; exact (counts_bd n u).mono ha
  have hk : KB b (U n v) := fun e he => (kb_word v (bq_zero n) e he).mono (by omega)
  exact ⟨kl_of h1 h2 (push_l hc hl), kb_of h1 h2 (kb_push hc hl hk hcb)⟩
theorem mem_shifts {a b : List St3} {d : Place} (h : d ∈ shiftsM a b) : ∃ s ∈ a, ∃ x ∈ b, d = subP x.1 s.1 := by
  cases a with
  | nil => cases h
  | cons s a =>
    obtain ⟨x, hx, rfl⟩ := List.mem_map.mp h
    exact ⟨s, List.mem_cons_self .., x, (List.mem_filter.mp hx).1, rfl⟩
theorem shift_b {n B C : Nat} {es fs : WE} {d : Place} (h1 : KL n es) (h2 : KB B es) (h3 : KL n fs) (h4 : KB C fs) (h : d ∈ shiftsM (stS es) (stS fs)) : d.length = n ∧ Bq (C + B) d := by
  obtain ⟨s, hs, x, hx, rfl⟩ := mem_shifts h
  have a1 : s.1.length = n := h1 _ (mem_stS.mp hs)
  have a2 : Bq B s.1 := h2 _ (mem_stS.mp hs)
  have a3 : x.1.length = n := h3 _ (mem_stS.mp hx)
  have a4 : Bq C x.1 := h4 _ (mem_stS.mp hx)
  exact ⟨subP_l a3 a1, bq_sub a3 a1 a4 a2⟩
/-- the gap's places -/
theorem gap_b {n : Nat} {u v : Wd} {d : Place} (hu : WF n u) (hv : WF n v) (hd : d.length = n) (hu5 : u.length ≤ 5) (hv5 : v.length ≤ 5) (hb : Bq 60 d) : KL n (gapW n u v d) ∧ KB 65 (gapW n u v d) := by
  obtain ⟨h1, h2⟩ := gap_can n u v d
  have hs : ∀ k, sm (gapW n u v d) k = sm (kl (streetsOf (zeroP n) v) ++ (kl (streetsOf d u)).map fun e => (e.1, (-1) * e.2)) k := fun k => by
    show lin _ _ = lin _ _
    rw [h2, lin_app, lin_times]
    unfold fw
    omega
  refine ⟨kl_of h1 hs fun e he => ?_, kb_of h1 hs fun e he => ?_⟩
  · rcases List.mem_append.mp he with he | he
    · exact kl_l hv (zeroP_len n) e he
    · obtain ⟨x, hx, rfl⟩ := List.mem_map.mp he
      exact kl_l hu hd x hx
  · rcases List.mem_append.mp he with he | he
    · exact (kb_word v (bq_zero n) e he).mono (by omega)
    · obtain ⟨x, hx, rfl⟩ := List.mem_map.mp he
      exact (kb_word u hb x hx).mono (by omega)
theorem gap_zero {n : Nat} {u v : Wd} {d : Place} (hu : WF n u) (hcc : counts n u = counts n v) (hd : d.length = n) (h : stS (movedW (nrmR (counts n u)) (rolledW n u) d) = stS (rolledW n v)) (k : Place × Nat) : sm (pushE (redK (nrmR (counts n u))) (gapW n u v d)) k = 0 := by
  obtain ⟨_, h2⟩ := gap_can n u v d
  have hm := moved_ms hu hcc hd h k
  show lin _ _ = 0
  rw [lin_push, h2, fw_at _ hd hu]
  have e1 : ms (counts n u) d (U n u) k = lin (fun x => ind k (redK (nrmR (counts n u)) (shK d x))) (U n u) := rfl
  have e2 : sm (pushE (redK (nrmR (counts n u))) (U n v)) k = fw (fun x => ind k (redK (nrmR (counts n u)) x)) (zeroP n) v := by
    show lin _ _ = _
    rw [lin_push]
    rfl
  rw [e1, e2] at hm
  omega
theorem absum_flat {α : Type} (f : α → WE) (K : Nat) (l : List α) (h : ∀ x ∈ l, absum (f x) ≤ K) : absum ((l.map f).flatten) ≤ l.length * K := by
  induction l with
  | nil => exact Nat.zero_le _
  | cons a l ih =>
    have h1 := h a (List.mem_cons_self ..)
    have h2 := ih fun x hx => h x (List.mem_cons_of_mem _ hx)
    rw [List.map_cons, List.flatten_cons, absum_app, List.length_cons, Nat.succ_mul]
    omega
theorem absum_const {r : Int} : ∀ l : List St3, (∀ s ∈ l, s.2.2 = r) → absum (kl l) = l.length * r.natAbs
  | [], _ => by simp [kl, absum]
  | s :: l, h => by
    have ih := absum_const l fun x hx => h x (List.mem_cons_of_mem _ hx)
    have h1 := h s (List.mem_cons_self ..)
    show s.2.2.natAbs + absum (kl l) = _
    rw [ih, h1, List.length_cons, Nat.succ_mul]
    omega
theorem kl_flat (l : List (List St3)) : kl l.flatten = (l.map kl).flatten := by
  unfold kl
  rw [List.map_flatten]
theorem part_len (s : St3) : (partOf s).length = s.2.2.natAbs * (part0 s).length := by
  rw [partOf_eq]
  have key : ∀ (m : Nat) (l : Wd), (List.replicate m l).flatten.length = m * l.length := by
    intro m l
    induction m with
    | zero => simp
    | succ m ih => rw [List.replicate_succ, List.flatten_cons, List.length_append, ih, Nat.succ_mul]; omega
  rw [key]
  split
  · rfl
  · rw [inv_len]
theorem parts_len {K : Nat} : ∀ ss : List St3, (∀ s ∈ ss, (part0 s).length ≤ K) → ((ss.map partOf).flatten).length ≤ absum (kl ss) * K
  | [], _ => Nat.zero_le _
  | s :: ss, h => by
    have ih := parts_len ss fun x hx => h x (List.mem_cons_of_mem _ hx)
    have h1 := Nat.mul_le_mul_left s.2.2.natAbs (h s (List.mem_cons_self ..))
    rw [List.map_cons, List.flatten_cons, List.length_append, part_len]
    show _ ≤ (s.2.2.natAbs + absum (kl ss)) * K
    rw [Nat.add_mul]
    omega
theorem absum_perm {κ : Type} {a b : List (κ × Int)} (h : a.Perm b) : absum a = absum b := by
  induction h with
  | nil => rfl
  | cons e _ ih => rw [absum, absum, ih]
  | swap x y l => rw [absum, absum, absum, absum]; omega
  | trans _ _ h1 h2 => rw [h1, h2]
theorem part0_len {n B : Nat} {s : St3} (hn : n ≤ 3) (h1 : s.1.length = n) (h2 : s.2.1 < n) (hb : Bq B s.1) : (part0 s).length ≤ 3 * B + 1 + 3 * (B + 1) := by
  have a := road_len hb
  have b := road_len (bq_stp hb s.2.1 (d := 1) (by decide))
  have hl := stp_l 1 h1 h2
  rw [h1] at a
  rw [hl] at b
  have c1 := Nat.mul_le_mul_right B hn
  have c2 := Nat.mul_le_mul_right (B + 1) hn
  unfold part0
  rw [List.length_append, List.length_append, inv_len]
  show _ + 1 + _ ≤ _
  omega
/-- with counts, all that turned needs, and what it answers -/
structure Big (n : Nat) (u v : Wd) (d : Place) : Prop where
  ok : TurnOk n u v d
  wf : WF n (turnedM n u v d) ∧ (turnedM n u v d).length ≤ 8000000
  B : turnsM n (turnedM n u v d) u v = true
theorem big {n : Nat} {u v : Wd} {d : Place} (hn1 : 1 ≤ n) (hn : n ≤ 3) (hu : WF n u) (hv : WF n v) (hcc : counts n u = counts n v) (hd : d.length = n) (hu5 : u.length ≤ 5) (hv5 : v.length ≤ 5) (hb : Bq 60 d) (hz : isZ (counts n u) = false)
    (hm : stS (movedW (nrmR (counts n u)) (rolledW n u) d) = stS (rolledW n v)) : Big n u v d := by
  have hc := counts_len n u
  have hs : sizeLine = 16777216 := by decide
  obtain ⟨g1, g2⟩ := gap_can n u v d
  obtain ⟨gl, gb⟩ := gap_b hu hv hd hu5 hv5 hb
  have ga := gap_abs n u v d
  have gz := gap_zero hu hcc hd hm
  have glen := gapW_len n u v d
  have hnz : counts n u ≠ zeroP n := fun e => by
    rw [isZ_iff hc, decide_eq_true e] at hz
    cases hz
  have nxt := fun (s : St3) (hs : s ∈ stS (gapW n u v d)) (hr : Gs (gapW n u v d) (counts n u) s.1 s.2.1 ≠ 0) => next_street g1 gl gb hc hz gz hs hr
  have hst : ∀ s ∈ stS (gapW n u v d), sumLeft (stS (gapW n u v d)) s.1 s.2.1 (counts n u) ≠ 0 → Stops (gapW n u v d) (counts n u) s.2.1 fuel s.1 := fun s hs hr => by
    rw [sumLeft_Gs] at hr
    obtain ⟨j, j1, j2, j3, _⟩ := nxt s hs hr
    exact stops_of hc fuel j s.1 (gl _ (mem_stS.mp hs)) j1 (by show j ≤ 400; omega) j3
  have hkg := kok_gap hn1 hn hd hu hv
  have hks := kok_sum hn1 hn hd hu hv
  -- the chains
  have hch : ∀ s ∈ stS (gapW n u v d), (∀ x ∈ chOf (gapW n u v d) (counts n u) s, Bq 65 x.1 ∧ x.1.length = n ∧ x.2.1 < n) ∧ absum (kl (chOf (gapW n u v d) (counts n u) s)) ≤ 1300 := fun s hs => by
    obtain ⟨k1, k2⟩ := hkg _ (mem_stS.mp hs)
    have k1 : s.1.length = n := k1
    have k2 : s.2.1 < n := k2
    have kb : Bq 65 s.1 := gb _ (mem_stS.mp hs)
    unfold chOf
    by_cases h0 : sumLeft (stS (gapW n u v d)) s.1 s.2.1 (counts n u) = 0
    · rw [if_pos h0]
      exact ⟨(fun x hx => nomatch hx), Nat.zero_le _⟩
    · rw [if_neg h0]
      rw [sumLeft_Gs] at h0 ⊢
      obtain ⟨j, j1, j2, j3, j4⟩ := nxt s hs h0
      obtain ⟨c1, c2⟩ := chain_to (r := Gs (gapW n u v d) (counts n u) s.1 s.2.1) hc fuel j s.1 k1 j1 j3
      have hso := chain_ok (gapW n u v d) hc k2 (Gs (gapW n u v d) (counts n u) s.1 s.2.1) fuel s.1 k1
      have hga : (Gs (gapW n u v d) (counts n u) s.1 s.2.1).natAbs ≤ 10 := by
        have : (Gs (gapW n u v d) (counts n u) s.1 s.2.1).natAbs ≤ absum (gapW n u v d) := lin_abs (fun x => by unfold bfI; split <;> decide) _
        omega
      refine ⟨fun x hx => ?_, ?_⟩
      · obtain ⟨_, m, m1, m2⟩ := c2 x hx
        refine ⟨?_, (hso x hx).1, (hso x hx).2⟩
        rw [m2]
        exact bq_between hc k1 (by omega) kb j4
      · rw [absum_const _ fun x hx => (c2 x hx).1]
        exact Nat.le_trans (Nat.mul_le_mul c1 hga) (by omega)
  have hall : ∀ x ∈ summedL (gapW n u v d) (counts n u), Bq 65 x.1 ∧ x.1.length = n ∧ x.2.1 < n := fun x hx => by
    rw [summedL_eq] at hx
    obtain ⟨l, h1, h2⟩ := List.mem_flatten.mp hx
    obtain ⟨s, hs, rfl⟩ := List.mem_map.mp h1
    exact (hch s hs).1 x h2
  have hab : absum (kl (summedL (gapW n u v d) (counts n u))) ≤ 13000 := by
    rw [summedL_eq, kl_flat, List.map_map]
    have h1 := absum_flat (fun s => kl (chOf (gapW n u v d) (counts n u) s)) 1300 (stS (gapW n u v d)) fun s hs => (hch s hs).2
    have h2 : (stS (gapW n u v d)).length ≤ 10 := by rw [stS_len]; omega
    have h3 := Nat.mul_le_mul_right 1300 h2
    exact Nat.le_trans h1 (by omega)
  obtain ⟨w1, w2⟩ := sumW_can n u v d
  have hwb : KB 65 (sumW n u v d) := kb_of w1 (fun k => w2 _) fun e he => by
    obtain ⟨x, hx, rfl⟩ := List.mem_map.mp he
    exact (hall x hx).1
  have hwa : absum (sumW n u v d) ≤ 13000 := Nat.le_trans (abs_le w1 w2) hab
  have hends := G_ends hu hv hd hcc hz gl (fun e he => by
    obtain ⟨x, hx, rfl⟩ := List.mem_map.mp he
    exact (hall x hx).2) hst
  have hend := endOf_of (n := n) hends
  have hp0 : ∀ s ∈ stS (sumW n u v d), (part0 s).length ≤ 394 := fun s hs => part0_len hn (hks _ (mem_stS.mp hs)).1 (hks _ (mem_stS.mp hs)).2 (hwb _ (mem_stS.mp hs))
  have hka : absum (kl (stS (sumW n u v d))) ≤ 13000 := by rw [absum_perm (kl_stS _)]; exact hwa
  have htot : (((stS (sumW n u v d)).map partOf).flatten ++ road d).length ≤ 5200000 := by
    have h1 := parts_len (stS (sumW n u v d)) hp0
    have h2 := road_len hb
    rw [hd] at h2
    have h3 := Nat.mul_le_mul_right 394 hka
    have h4 := Nat.mul_le_mul_right 60 hn
    rw [List.length_append]
    omega
  have htm : turnedM n u v d = wordOf (sumW n u v d) d := by
    rw [turnedM_eq, if_neg hnz, hend]
    rfl
  have hword := fun φ => word_fw (n := n) (es := sumW n u v d) φ hks hd hends
  refine ⟨⟨hb.bp (by decide), hd, fun e => absurd e hnz, fun _ s hs => (gb _ (mem_stS.mp hs)).bp (by decide), fun _ => hst, fun _ => ⟨d, hend, hd, hb.bp (by decide), by omega⟩, fun _ s hs => ?_⟩, ⟨?_, ?_⟩, ?_⟩
  · have h1 := hwb _ (mem_stS.mp hs)
    have h2 : s.2.2.natAbs ≤ 13000 := Nat.le_trans (mem_abs (e := ((s.1, s.2.1), s.2.2)) (mem_stS.mp hs)) hwa
    have h3 := hp0 s hs
    refine ⟨h1.bp (by decide), (bq_stp h1 s.2.1 (d := 1) (by decide)).bp (by decide), by omega, by omega, ?_⟩
    exact Nat.le_trans (Nat.mul_le_mul h3 h2) (by omega)
  · rw [htm]
    exact (hword fun _ => 0).2.2
  · rw [htm]
    have h1 := short_len (((stS (sumW n u v d)).map partOf).flatten ++ road d) []
    have h2 : (wordOf (sumW n u v d) d).length ≤ ([] : Wd).length + (((stS (sumW n u v d)).map partOf).flatten ++ road d).length := h1
    rw [List.length_nil] at h2
    omega
  · rw [htm, turns_iff]
    intro k
    obtain ⟨a1, a2, a3⟩ := hword (ind k)
    rw [fw_turn _ a3 hu, a1, a2, fw_at (ind k) hc a3]
    have b1 := (hword fun x => ind k (shK (counts n u) x)).1
    have b2 : lin (fun x => ind k (shK (counts n u) x)) (U n (wordOf (sumW n u v d) d)) = lin (fun x => ind k (shK (counts n u) x)) (sumW n u v d) := b1
    rw [b2, w2, w2, G_step g1 gl hc hz hst (ind k), g2]
    omega
theorem plain_all : PlainAll := by
  intro n u v hn1 hn hu hv hul hvl h5
  have hs : sizeLine = 16777216 := by decide
  have hc := counts_len n u
  have hz := zeroP_len n
  have hcb : Bq 6 (counts n u) := (counts_bd n u).mono hul
  -- shifts
  have hsh : counts n u = counts n v → ∀ d ∈ shiftsM (stS (rolledW n u)) (stS (rolledW n v)), d.length = n ∧ Bq 98 d := fun hcc d hd => by
    obtain ⟨a1, a2⟩ := rolled_b (a := 6) (b := 6) hu rfl hul hul
    obtain ⟨b1, b2⟩ := rolled_b (a := 6) (b := 8) hv hcc hul hvl
    exact shift_b a1 a2 b1 b2 hd
  have hsh5 : counts n u = counts n v → u.length ≤ 5 → v.length ≤ 5 → ∀ d ∈ shiftsM (stS (rolledW n u)) (stS (rolledW n v)), d.length = n ∧ Bq 60 d := fun hcc hu5 hv5 d hd => by
    obtain ⟨a1, a2⟩ := rolled_b (a := 5) (b := 5) hu rfl hu5 hu5
    obtain ⟨b1, b2⟩ := rolled_b (a := 5) (b := 5) hv hcc hu5 hv5
    exact shift_b a1 a2 b1 b2 hd
  have hbig : counts n u = counts n v → isZ (counts n u) = false → ∀ d ∈ shiftsM (stS (rolledW n u)) (stS (rolledW n v)), stS (movedW (nrmR (counts n u)) (rolledW n u) d) = stS (rolledW n v) → Big n u v d := fun hcc hzz d hd hm => by
    rcases h5 hcc with h | ⟨hu5, hv5⟩
    · rw [isZ_iff hc, decide_eq_true h] at hzz
      cases hzz
    · obtain ⟨d1, d2⟩ := hsh5 hcc hu5 hv5 d hd
      exact big hn1 hn hu hv hcc d1 hu5 hv5 d2 hzz hm
  have hroad : ∀ d : Place, d.length = n → Bq 98 d → (road d).length ≤ 294 := fun d hd hb => by
    have h2 := road_len hb
    rw [hd] at h2
    have h4 := Nat.mul_le_mul_right 98 hn
    omega
  have hlaw : ∀ w : Wd, WF n w → w.length ≤ 8 → KL n (lawW n (nrmR (counts n u)) w) ∧ KB 56 (lawW n (nrmR (counts n u)) w) := fun w hw hwl => by
    obtain ⟨h1, h2⟩ := can_lw (nrmR (counts n u)) (streetsOf (zeroP n) w)
    have hl : KL n (U n w) := kl_l hw hz
    have hk : KB 8 (U n w) := fun e he => (kb_word w (bq_zero n) e he).mono (by omega)
    exact ⟨kl_of h1 h2 (push_l hc hl), kb_of h1 h2 (kb_push hc hl hk hcb)⟩
  refine ⟨fun hcc d hd => ?_, fun t ht => ?_, fun hM t ht => law_A ht hu hv hM, fun t ht => ?_, fun hM hcc => law_C hu hv hM hcc, ⟨rok_nrm hc hcb (by decide) hn1 hn, posR_nrm⟩, fun k hk => ?_, fun s hs => ?_, fun e he k hk g hg => ?_⟩
  · obtain ⟨d1, d2⟩ := hsh hcc d hd
    obtain ⟨a1, a2⟩ := rolled_b (a := 6) (b := 6) hu rfl hul hul
    refine ⟨d1, fun _ s hs => (bq_add (a1 _ (mem_stS.mp hs)) d1 (a2 _ (mem_stS.mp hs)) d2).bp (by decide), fun hm => ?_⟩
    cases hzz : isZ (counts n u) with
    | false => exact (hbig hcc hzz d hd hm).ok
    | true =>
      have h0 := zero_of hc hzz
      have hr := hroad d d1 d2
      exact ⟨d2.bp (by decide), d1, fun _ => by omega, fun q => absurd h0 q, fun q => absurd h0 q, fun q => absurd h0 q, fun q => absurd h0 q⟩
  · obtain ⟨hcc, h⟩ := turner_some hu ht
    rcases h with ⟨rfl, _⟩ | ⟨d, hd, hm, rfl⟩
    · exact ⟨fun g hg => (nomatch hg), Nat.zero_le _⟩
    · cases hzz : isZ (counts n u) with
      | false => exact (hbig hcc hzz d hd hm).wf
      | true =>
        obtain ⟨d1, d2⟩ := hsh hcc d hd
        rw [turnedM_eq, if_pos (zero_of hc hzz)]
        have hr := hroad d d1 d2
        exact ⟨road_wf d1, by omega⟩
  · obtain ⟨hcc, h⟩ := turner_some hu ht
    rcases h with ⟨rfl, _, h1, h2⟩ | ⟨d, hd, hm, rfl⟩
    · exact B_nil h1 h2
    · cases hzz : isZ (counts n u) with
      | false => exact (hbig hcc hzz d hd hm).B
      | true =>
        obtain ⟨d1, d2⟩ := hsh hcc d hd
        have h0 := zero_of hc hzz
        rw [turnedM_eq, if_pos h0]
        exact B_zero hu hcc d1 h0 hm
  · rcases hk with hk | hk
    · exact (hlaw u hu (by omega)).1 k hk
    · exact (hlaw v hv hvl).1 k hk
  · rcases hs with hs | hs
    · exact (streets_bd u 0 _ (bq_zero n) s hs).bp (by omega)
    · exact (streets_bd v 0 _ (bq_zero n) s hs).bp (by omega)
  · obtain ⟨u1, u2⟩ := hlaw u hu (by omega)
    obtain ⟨v1, v2⟩ := hlaw v hv hvl
    exact (bq_add (u1 e he) (subP_l (v1 g hg) (u1 k hk)) (u2 e he) (bq_sub (v1 g hg) (u1 k hk) (v2 g hg) (u2 k hk))).bp (by decide)
end K35
/-! text F1 -/
set_option Elab.async false
set_option linter.all false
set_option maxRecDepth 100000
set_option maxHeartbeats 4000000
/-! the head 1: facts of the claim's own -/
namespace K35
open PySem PySem.Spec PyProof.Rows L2
/-- what stands in a property or a classmethod -/
def recA (K : PySem.W.Frag) (T : String) (p : Addr) : Addr := match PySem.W.recIn K p T with
  | some (.ref g :: _) => g
  | _ => 0
abbrev Fv : Type := Option (Str × Str × Arguments × FuncBody × Scope × Addr × List (Str × Addr) × Addr)
def fvD : Data → Fv
  | .func fd => some (fd.name, fd.qualname, fd.params, fd.body, fd.scope, fd.globals, fd.closure, fd.builtins)
  | _ => none
def fvA (K : PySem.W.Frag) (a : Addr) : Fv := (K.lookup a).bind fun o => fvD o.data
def fbD (K : PySem.W.Frag) (q : Str) (dvs : List V) (kws : List (Str × V)) : Data → Bool
  | .func fd => PySem.W.codeIn K fd.code q && (He.dflB K fd.defaults dvs && He.kwdB K fd.kwdefaults kws)
  | _ => false
def fbA (K : PySem.W.Frag) (a : Addr) (q : Str) (dvs : List V) (kws : List (Str × V)) : Bool := PySem.W.keepIn K (.ref a) && match K.lookup a with
  | some o => fbD K q dvs kws o.data
  | none => false
def fvOf (x q : Str) (st : Stmt) : Fv := some (x, q, defArgs st, .stmts (defBody st), defScope st, mainGlobals, [], builtinsNs)
theorem fA_ok {K : PySem.W.Frag} {a : Addr} {x q : Str} {st : Stmt} {dvs : List V} {kws : List (Str × V)} (e : fvA K a = fvOf x q st) (c : fbA K a q dvs kws = true) : ∃ fd, FunD K x q (defArgs st) (defBody st) (defScope st) dvs kws a fd := by
  obtain ⟨kp, c⟩ := He.ba c
  unfold fvA at e
  cases h : K.lookup a with
  | none =>
    rw [h] at e
    cases e
  | some o =>
    rw [h] at e c
    obtain ⟨oc, od, dt, osl⟩ := o
    cases dt with
    | func fd =>
      obtain ⟨n1, n2, n3, n4, n5, n6, n7, n8, n9, n10, n11, n12, n13, n14, n15⟩ := fd
      have e2 : (some (n1, n2, n3, n4, n5, n6, n7, n15) : Fv) = fvOf x q st := e
      unfold fvOf at e2
      simp only [Option.some.injEq, Prod.mk.injEq] at e2
      obtain ⟨h1, h2, h3, h4, h5, h6, h7, h8⟩ := e2
      subst h1 h2 h3 h4 h5 h6 h7 h8
      have c3 : (PySem.W.codeIn K n13 n2 && (He.dflB K n8 dvs && He.kwdB K n9 kws)) = true := c
      obtain ⟨k1, k2⟩ := He.ba c3
      obtain ⟨k3, k4⟩ := He.ba k2
      exact ⟨_, ⟨oc, od, n8, n9, n10, n11, n12, n13, n14, osl, rfl, h, k1, He.dflB_ok k3, He.kwdB_ok k4⟩, kp⟩
    | _ => cases e
/-! booleans -/
def vEq (a : Option (Option Value)) (b : Value) : Bool := decide (a = some (some b))
def recB (K : PySem.W.Frag) (T : String) (p : Addr) : Bool := match PySem.W.recIn K p T with
  | some (.ref _ :: _) => true
  | _ => false
theorem recB_ok {K : PySem.W.Frag} {T : String} {p : Addr} (h : recB K T p = true) : ∃ rest, PySem.W.recIn K p T = some (.ref (recA K T p) :: rest) := by
  unfold recB at h
  unfold recA
  split at h
  · rename_i g r e
    rw [e]
    exact ⟨_, rfl⟩
  · cases h
def propB (K : PySem.W.Frag) (C : Addr) (m : Str) : Bool := vEq (PySem.W.findIn K (.ref C) m) (.ref (He.ma K C m)) && (vEq (PySem.W.specialIn K (.ref (He.ma K C m)) "__get__") (.builtin "property.__get__") && (decide (PySem.W.takesIn K (.ref (He.ma K C m)) = some true) && recB K "property" (He.ma K C m)))
theorem propB_ok {K : PySem.W.Frag} {C : Addr} {m : Str} (h : propB K C m = true) : PropOf K C m (He.ma K C m) (recA K "property" (He.ma K C m)) := by
  obtain ⟨a, h⟩ := He.ba h
  obtain ⟨b, h⟩ := He.ba h
  obtain ⟨c, d⟩ := He.ba h
  exact ⟨of_decide_eq_true a, of_decide_eq_true b, of_decide_eq_true c, recB_ok d⟩
def mcT : Value := .type "type"
def clsB (K : PySem.W.Frag) (C : Addr) (m : Str) : Bool := match PySem.W.findCls K (.ref C) mcT m with
  | some (.get g a o t) => decide (g = .builtin "classmethod.__get__") && (decide (a = .ref (He.ma K C m)) && (decide (o = .none) && (decide (t = .ref C) && (recB K "classmethod" (He.ma K C m) && PySem.W.fnIn K (recA K "classmethod" (He.ma K C m))))))
  | _ => false
theorem clsB_ok {K : PySem.W.Frag} {C : Addr} {m : Str} (h : clsB K C m = true) : ClX.CMet K C mcT m (He.ma K C m) (recA K "classmethod" (He.ma K C m)) := by
  unfold clsB at h
  split at h
  · rename_i g a o t e
    obtain ⟨h1, h⟩ := He.ba h
    obtain ⟨h2, h⟩ := He.ba h
    obtain ⟨h3, h⟩ := He.ba h
    obtain ⟨h4, h⟩ := He.ba h
    obtain ⟨h5, h6⟩ := He.ba h
    rw [of_decide_eq_true h1, of_decide_eq_true h2, of_decide_eq_true h3, of_decide_eq_true h4] at e
    exact ⟨e, recB_ok h5, h6⟩
  · cases h
def rdB (K : PySem.W.Frag) (C : Addr) : Bool := PySem.W.readsIn K C mcT && vEq (PySem.W.specialIn K (.ref C) "__getattribute__") (.builtin "type.__getattribute__")
theorem rdB_ok {K : PySem.W.Frag} {C : Addr} (h : rdB K C = true) : ClX.CRead K C mcT := by
  obtain ⟨a, b⟩ := He.ba h
  exact ⟨a, of_decide_eq_true b⟩
def eqB (K : PySem.W.Frag) (C : Addr) : Bool := vEq (PySem.W.findIn K (.ref C) "__eq__") (.ref (He.ma K C "__eq__")) && (PySem.W.isFn K (.ref (He.ma K C "__eq__")) && (vEq (PySem.W.findIn K (.ref C) "__ne__") (.builtin "object.__ne__") && decide (PySem.W.subIn K (.ref C) (.type "object") = some true)))
theorem eqB_ok {K : PySem.W.Frag} {C : Addr} (h : eqB K C = true) : EqC K C (He.ma K C "__eq__") := by
  obtain ⟨a, h⟩ := He.ba h
  obtain ⟨b, h⟩ := He.ba h
  obtain ⟨c, d⟩ := He.ba h
  exact ⟨of_decide_eq_true a, b, of_decide_eq_true c, of_decide_eq_true d⟩
def insB (K : PySem.W.Frag) (C : Addr) : Bool := vEq (PySem.W.findIn K (.ref C) "__class__") (.builtin "object.__class__") && (vEq (PySem.W.specialIn K (.builtin "object.__class__") "__get__") (.builtin "getset_descriptor.__get__") && (decide (PySem.W.takesIn K (.builtin "object.__class__") = some true) && (decide (PySem.W.mroIn K C (.type "object") = some true) && decide (PySem.W.kitOne K (.ref C) (.ref C) = some true))))
theorem insB_ok {K : PySem.W.Frag} {C : Addr} (cl : Cls K C) (h : insB K C = true) : C8.InsC K C := by
  obtain ⟨a, h⟩ := He.ba h
  obtain ⟨b, h⟩ := He.ba h
  obtain ⟨c, h⟩ := He.ba h
  obtain ⟨d, e⟩ := He.ba h
  exact ⟨cl, of_decide_eq_true a, of_decide_eq_true b, of_decide_eq_true c, of_decide_eq_true d, of_decide_eq_true e⟩
def trB (K : PySem.W.Frag) (C : Addr) : Bool := vEq (PySem.W.findIn K (.ref C) "__bool__") (.ref (He.ma K C "__bool__")) && PySem.W.isFn K (.ref (He.ma K C "__bool__"))
theorem trB_ok {K : PySem.W.Frag} {C : Addr} (h : trB K C = true) : PySem.W.findIn K (.ref C) "__bool__" = some (some (.ref (He.ma K C "__bool__"))) ∧ PySem.W.isFn K (.ref (He.ma K C "__bool__")) = true := by
  obtain ⟨a, b⟩ := He.ba h
  exact ⟨of_decide_eq_true a, b⟩
end K35
/-! text F2 -/
set_option Elab.async false
set_option linter.all false
set_option maxRecDepth 100000
set_option maxHeartbeats 0
/-! the head 2: the run -/
namespace K35
open PySem PySem.Spec PyProof.Rows L2

def fn : List He.DefD := [
  ⟨("is_number", none), "is_number", "is_number", defArgs (top 13), defBody (top 13), defScope (top 13), [], []⟩,
  ⟨("is_counts", none), "is_counts", "is_counts", defArgs (top 14), defBody (top 14), defScope (top 14), [], []⟩,
  ⟨("check_counts", none), "check_counts", "check_counts", defArgs (top 15), defBody (top 15), defScope (top 15), [], []⟩,
  ⟨("plus", none), "plus", "plus", defArgs (top 16), defBody (top 16), defScope (top 16), [], []⟩,
  ⟨("minus", none), "minus", "minus", defArgs (top 18), defBody (top 18), defScope (top 18), [], []⟩,
  ⟨("scaled", none), "scaled", "scaled", defArgs (top 19), defBody (top 19), defScope (top 19), [], []⟩,
  ⟨("lead_of", none), "lead_of", "lead_of", defArgs (top 20), defBody (top 20), defScope (top 20), [], []⟩,
  ⟨("normal", none), "normal", "normal", defArgs (top 22), defBody (top 22), defScope (top 22), [], []⟩,
  ⟨("size_of", none), "size_of", "size_of", defArgs (top 23), defBody (top 23), defScope (top 23), [], []⟩,
  ⟨("Table", some "__init__"), "__init__", "Table.__init__", defArgs (inClass (top 24) 0), defBody (inClass (top 24) 0), defScope (inClass (top 24) 0), [.adr (He.dflAt ("Table", some "__init__") 0)], []⟩,
  ⟨("Table", some "rows"), "rows", "Table.rows", defArgs (inClass (top 24) 3), defBody (inClass (top 24) 3), defScope (inClass (top 24) 3), [], []⟩,
  ⟨("Table", some "reduced"), "reduced", "Table.reduced", defArgs (inClass (top 24) 4), defBody (inClass (top 24) 4), defScope (inClass (top 24) 4), [], []⟩,
  ⟨("Table", some "place"), "place", "Table.place", defArgs (inClass (top 24) 5), defBody (inClass (top 24) 5), defScope (inClass (top 24) 5), [], []⟩,
  ⟨("Table", some "__eq__"), "__eq__", "Table.__eq__", defArgs (inClass (top 24) 11), defBody (inClass (top 24) 11), defScope (inClass (top 24) 11), [], []⟩,
  ⟨("swapped", none), "swapped", "swapped", defArgs (top 27), defBody (top 27), defScope (top 27), [], []⟩,
  ⟨("is_word", none), "is_word", "is_word", defArgs (top 28), defBody (top 28), defScope (top 28), [], []⟩,
  ⟨("check_words", none), "check_words", "check_words", defArgs (top 29), defBody (top 29), defScope (top 29), [], []⟩,
  ⟨("opposite", none), "opposite", "opposite", defArgs (top 30), defBody (top 30), defScope (top 30), [], []⟩,
  ⟨("shortened", none), "shortened", "shortened", defArgs (top 31), defBody (top 31), defScope (top 31), [], []⟩,
  ⟨("counts_of", none), "counts_of", "counts_of", defArgs (top 32), defBody (top 32), defScope (top 32), [], []⟩,
  ⟨("stepped", none), "stepped", "stepped", defArgs (top 34), defBody (top 34), defScope (top 34), [], []⟩,
  ⟨("streets_of", none), "streets_of", "streets_of", defArgs (top 35), defBody (top 35), defScope (top 35), [], []⟩,
  ⟨("Walk", some "__init__"), "__init__", "Walk.__init__", defArgs (inClass (top 36) 0), defBody (inClass (top 36) 0), defScope (inClass (top 36) 0), [.adr (He.dflAt ("Walk", some "__init__") 0)], []⟩,
  ⟨("Walk", some "add"), "add", "Walk.add", defArgs (inClass (top 36) 1), defBody (inClass (top 36) 1), defScope (inClass (top 36) 1), [], []⟩,
  ⟨("Walk", some "streets"), "streets", "Walk.streets", defArgs (inClass (top 36) 4), defBody (inClass (top 36) 4), defScope (inClass (top 36) 4), [], []⟩,
  ⟨("Walk", some "at_street"), "at_street", "Walk.at_street", defArgs (inClass (top 36) 5), defBody (inClass (top 36) 5), defScope (inClass (top 36) 5), [], []⟩,
  ⟨("Walk", some "ends"), "ends", "Walk.ends", defArgs (inClass (top 36) 6), defBody (inClass (top 36) 6), defScope (inClass (top 36) 6), [], []⟩,
  ⟨("Walk", some "moved"), "moved", "Walk.moved", defArgs (inClass (top 36) 7), defBody (inClass (top 36) 7), defScope (inClass (top 36) 7), [], []⟩,
  ⟨("Walk", some "times"), "times", "Walk.times", defArgs (inClass (top 36) 8), defBody (inClass (top 36) 8), defScope (inClass (top 36) 8), [], []⟩,
  ⟨("Walk", some "minus"), "minus", "Walk.minus", defArgs (inClass (top 36) 10), defBody (inClass (top 36) 10), defScope (inClass (top 36) 10), [], []⟩,
  ⟨("Walk", some "__bool__"), "__bool__", "Walk.__bool__", defArgs (inClass (top 36) 11), defBody (inClass (top 36) 11), defScope (inClass (top 36) 11), [], []⟩,
  ⟨("Walk", some "__eq__"), "__eq__", "Walk.__eq__", defArgs (inClass (top 36) 13), defBody (inClass (top 36) 13), defScope (inClass (top 36) 13), [], []⟩,
  ⟨("road", none), "road", "road", defArgs (top 38), defBody (top 38), defScope (top 38), [], []⟩,
  ⟨("free", none), "free", "free", defArgs (top 40), defBody (top 40), defScope (top 40), [], []⟩,
  ⟨("rolled", none), "rolled", "rolled", defArgs (top 41), defBody (top 41), defScope (top 41), [], []⟩,
  ⟨("end_of", none), "end_of", "end_of", defArgs (top 42), defBody (top 42), defScope (top 42), [], []⟩,
  ⟨("word_of", none), "word_of", "word_of", defArgs (top 43), defBody (top 43), defScope (top 43), [], []⟩,
  ⟨("summed", none), "summed", "summed", defArgs (top 44), defBody (top 44), defScope (top 44), [], []⟩,
  ⟨("sum_left", none), "sum_left", "sum_left", defArgs (top 45), defBody (top 45), defScope (top 45), [], []⟩,
  ⟨("is_before", none), "is_before", "is_before", defArgs (top 46), defBody (top 46), defScope (top 46), [], []⟩,
  ⟨("shifts", none), "shifts", "shifts", defArgs (top 47), defBody (top 47), defScope (top 47), [], []⟩,
  ⟨("turner", none), "turner", "turner", defArgs (top 48), defBody (top 48), defScope (top 48), [], []⟩,
  ⟨("turned", none), "turned", "turned", defArgs (top 49), defBody (top 49), defScope (top 49), [], []⟩,
  ⟨("_law_begin", none), "_law_begin", "_law_begin", defArgs (top 51), defBody (top 51), defScope (top 51), [], []⟩,
  ⟨("_law_draw", none), "_law_draw", "_law_draw", defArgs (top 52), defBody (top 52), defScope (top 52), [], []⟩,
  ⟨("_law_any", none), "_law_any", "_law_any", defArgs (top 53), defBody (top 53), defScope (top 53), [], []⟩,
  ⟨("_law_letters", none), "_law_letters", "_law_letters", defArgs (top 54), defBody (top 54), defScope (top 54), [], []⟩,
  ⟨("_law_signs", none), "_law_signs", "_law_signs", defArgs (top 55), defBody (top 55), defScope (top 55), [], []⟩,
  ⟨("_law_back", none), "_law_back", "_law_back", defArgs (top 56), defBody (top 56), defScope (top 56), [], []⟩,
  ⟨("_law_some_word", none), "_law_some_word", "_law_some_word", defArgs (top 57), defBody (top 57), defScope (top 57), [], []⟩,
  ⟨("_law_gone_back", none), "_law_gone_back", "_law_gone_back", defArgs (top 58), defBody (top 58), defScope (top 58), [], []⟩,
  ⟨("_law_number_of", none), "_law_number_of", "_law_number_of", defArgs (top 59), defBody (top 59), defScope (top 59), [], []⟩,
  ⟨("_law_add", none), "_law_add", "_law_add", defArgs (top 60), defBody (top 60), defScope (top 60), [], []⟩,
  ⟨("_law_less", none), "_law_less", "_law_less", defArgs (top 61), defBody (top 61), defScope (top 61), [], []⟩,
  ⟨("_law_by", none), "_law_by", "_law_by", defArgs (top 62), defBody (top 62), defScope (top 62), [], []⟩,
  ⟨("_law_unit", none), "_law_unit", "_law_unit", defArgs (top 63), defBody (top 63), defScope (top 63), [], []⟩,
  ⟨("_law_first_at", none), "_law_first_at", "_law_first_at", defArgs (top 64), defBody (top 64), defScope (top 64), [], []⟩,
  ⟨("_law_normal", none), "_law_normal", "_law_normal", defArgs (top 65), defBody (top 65), defScope (top 65), [], []⟩,
  ⟨("_law_named", none), "_law_named", "_law_named", defArgs (top 66), defBody (top 66), defScope (top 66), [], []⟩,
  ⟨("_law_walk_of", none), "_law_walk_of", "_law_walk_of", defArgs (top 67), defBody (top 67), defScope (top 67), [], []⟩,
  ⟨("_law_carried", none), "_law_carried", "_law_carried", defArgs (top 68), defBody (top 68), defScope (top 68), [], []⟩,
  ⟨("_law_free_walk", none), "_law_free_walk", "_law_free_walk", defArgs (top 69), defBody (top 69), defScope (top 69), [], []⟩,
  ⟨("_law_turns", none), "_law_turns", "_law_turns", defArgs (top 70), defBody (top 70), defScope (top 70), [], []⟩,
  ⟨("_law_all_words", none), "_law_all_words", "_law_all_words", defArgs (top 71), defBody (top 71), defScope (top 71), [], []⟩,
  ⟨("law", none), "law", "law", defArgs (top 72), defBody (top 72), defScope (top 72), [], []⟩]
def fa : List He.Fa := [.glo "is_number",
  .glo "is_counts",
  .glo "check_counts",
  .glo "plus",
  .glo "plus_tables",
  .glo "minus",
  .glo "scaled",
  .glo "lead_of",
  .glo "normal",
  .glo "size_of",
  .glo "swapped",
  .glo "is_word",
  .glo "check_words",
  .glo "opposite",
  .glo "shortened",
  .glo "counts_of",
  .glo "stepped",
  .glo "streets_of",
  .glo "road",
  .glo "free",
  .glo "rolled",
  .glo "end_of",
  .glo "word_of",
  .glo "summed",
  .glo "sum_left",
  .glo "is_before",
  .glo "shifts",
  .glo "turner",
  .glo "turned",
  .glo "_law_begin",
  .glo "_law_draw",
  .glo "_law_any",
  .glo "_law_letters",
  .glo "_law_signs",
  .glo "_law_back",
  .glo "_law_some_word",
  .glo "_law_gone_back",
  .glo "_law_number_of",
  .glo "_law_add",
  .glo "_law_less",
  .glo "_law_by",
  .glo "_law_unit",
  .glo "_law_first_at",
  .glo "_law_normal",
  .glo "_law_named",
  .glo "_law_walk_of",
  .glo "_law_carried",
  .glo "_law_free_walk",
  .glo "_law_turns",
  .glo "_law_all_words",
  .glo "law",
  .glo "Table",
  .glo "Walk",
  .int "MOST_WIDTH" 3,
  .str "LOWER" "abcdefghijklmnopqrstuvwxyz",
  .free "len",
  .free "isinstance",
  .free "int",
  .free "bool",
  .free "tuple",
  .free "all",
  .free "zip",
  .free "abs",
  .free "enumerate",
  .free "range",
  .free "list",
  .free "sorted",
  .free "max",
  .free "dict",
  .cls "Table",
  .mkr "Table",
  .cls "Walk",
  .mkr "Walk",
  .noat "Table" "own_width",
  .noat "Table" "normal_rows",
  .noat "Table" "leads",
  .noat "Table" "identity",
  .noat "Table" "own_size",
  .noat "Walk" "own_table",
  .noat "Walk" "known",
  .noat "Walk" "identity",
  .meth "Table" "rows",
  .meth "Table" "reduced",
  .meth "Table" "place",
  .meth "Table" "__eq__",
  .meth "Walk" "add",
  .meth "Walk" "streets",
  .meth "Walk" "at_street",
  .meth "Walk" "ends",
  .meth "Walk" "moved",
  .meth "Walk" "times",
  .meth "Walk" "minus",
  .meth "Walk" "__eq__",
  .meth "Walk" "__bool__",
  .keep "check_words"]
def rootsA : List Str := ["is_number", "is_counts", "check_counts", "plus", "plus_tables", "minus", "scaled", "lead_of", "normal", "size_of", "swapped", "is_word"]
def rootsB : List Str := ["check_words", "opposite", "shortened", "counts_of", "stepped", "streets_of", "road", "free", "rolled", "end_of", "word_of", "summed"]
def rootsC : List Str := ["sum_left", "is_before", "shifts", "turner", "turned", "_law_begin", "_law_draw", "_law_any", "_law_letters", "_law_signs", "_law_back", "_law_some_word"]
def rootsD : List Str := ["_law_gone_back", "_law_number_of", "_law_add", "_law_less", "_law_by", "_law_unit", "_law_first_at", "_law_normal", "_law_named", "_law_walk_of", "_law_carried", "_law_free_walk"]
def rootsE : List Str := ["_law_turns", "_law_all_words", "law", "Table", "Walk"]

def aW (K : PySem.W.Frag) : Addr := recA K "property" (He.ma K (He.ga K "Table") "width")
def aT (K : PySem.W.Frag) : Addr := recA K "property" (He.ma K (He.ga K "Walk") "table")
def aO (K : PySem.W.Frag) : Addr := recA K "classmethod" (He.ma K (He.ga K "Walk") "of")
def tup0 (K : PySem.W.Frag) (t : Addr) : Bool := match K.lookup t with
  | some ⟨.type c, _, .seq its _, _⟩ => decide (c = "tuple") && decide (its.size = 0)
  | _ => false
def ownB (K : PySem.W.Frag) : Bool := propB K (He.ga K "Table") "width" && (propB K (He.ga K "Walk") "table" && (clsB K (He.ga K "Walk") "of" && (rdB K (He.ga K "Walk") && (eqB K (He.ga K "Table") && (eqB K (He.ga K "Walk") && (insB K (He.ga K "Table") && (insB K (He.ga K "Walk") && (trB K (He.ga K "Walk") &&
  (fbA K (aW K) "Table.width" [] [] && (fbA K (aT K) "Walk.table" [] [] && (fbA K (aO K) "Walk.of" [] [("start", .non)] && (tup0 K (He.dflAt ("Table", some "__init__") 0 K) && decide (He.ga K "plus_tables" = He.ga K "plus")))))))))))))
def ownF (K : PySem.W.Frag) : List Fv := [fvA K (aW K), fvA K (aT K), fvA K (aO K)]
def ownV : List Fv := [fvOf "width" "Table.width" (inClass (top 24) 1), fvOf "table" "Walk.table" (inClass (top 36) 3), fvOf "of" "Walk.of" (inClass (top 36) 2)]
abbrev AlO : Type := He.AlD × (Bool × List Fv)
def obsO (K : PySem.W.Frag) : AlO := (He.obsD fa fn K, (ownB K, ownF K))
def valO : AlO := (He.valD fn, (true, ownV))
/-- what the objects of a list name, themselves left out -/
def nxt (g : Addr → Option Obj) (as : List Addr) : List Addr := as.flatMap fun a => match g a with
  | some o => (He.refsD o).filter fun b => !(b == a)
  | none => []
def lvl (g : Addr → Option Obj) : Nat → List Addr → List Addr
  | 0, as => as
  | n + 1, as => as ++ lvl g n (nxt g as)
def Kof (g : Addr → Option Obj) : PySem.W.Frag := He.frG g (cStatics :: mainGlobals :: lvl g 4 ((rootsA ++ rootsB ++ rootsC ++ rootsD ++ rootsE).map (He.ga (He.frG g [mainGlobals]))))
def hk : PySem.W.Hook where
  α := AlO
  obs := fun s => obsO (Kof s.heap.get?)
  val := fun _ => valO
  says := fun _ h => ∃ K : PySem.W.Frag, K.In h ∧ obsO K = valO
  of := fun _ _ e => ⟨_, He.frG_in, e⟩
  keeps := fun _ _ _ ⟨K, hK, c⟩ k => ⟨K, PySem.W.Frag.In.keeps hK k, c⟩
def ob (s : PySem.W.SharedT) : AlO := obsO (Kof (HandSHeadRun.getT s))
theorem ob_eq (s : PySem.W.SharedT) : ob s = hk.obs s.abs := by
  have e : HandSHeadRun.getT s = s.abs.heap.get? := funext (HandSHeadRun.getT_eq s)
  show obsO (Kof (HandSHeadRun.getT s)) = obsO (Kof s.abs.heap.get?)
  rw [e]
abbrev RO : PySem.W.OpenRow := PySem.W.OpenLaw.row PySem.Challenge.rw_roundswap_k35_whole_words_that_do_not_tu

def names0 : List PySem.Str := ["_wall", "TownError", "InvalidWord", "InvalidCounts", "InvalidTable", "InvalidStreet", "InvalidNumber", "Endless", "Unlike", "NoWord", "MOST_WIDTH", "is_number"]
def names1 : List PySem.Str := ["is_counts", "check_counts", "plus", "plus_tables", "minus", "scaled", "lead_of", "least_row", "normal", "size_of", "Table", "LOWER"]
def names2 : List PySem.Str := ["swapped", "is_word", "check_words", "opposite", "shortened", "counts_of", "stepped", "streets_of", "Walk", "road", "free", "rolled"]
def names3 : List PySem.Str := ["end_of", "word_of", "summed", "sum_left", "is_before", "shifts", "turner", "turned", "_law_begin", "_law_draw", "_law_any", "_law_letters"]
def names4 : List PySem.Str := ["_law_signs", "_law_back", "_law_some_word", "_law_gone_back", "_law_number_of", "_law_add", "_law_less", "_law_by", "_law_unit", "_law_first_at", "_law_normal", "_law_named"]
def names5 : List PySem.Str := ["_law_walk_of", "_law_carried", "_law_free_walk", "_law_turns", "_law_all_words"]

theorem run (w : World) : HandSHeadRun.RunEq RO (PySem.W.view RO.prog [72]) hk ob 6000 (names0 ++ names1 ++ names2 ++ names3 ++ names4 ++ names5) w := by
  intro os
  kernel_rfl
end K35
/-! text F3 -/
set_option Elab.async false
set_option linter.all false
set_option maxRecDepth 100000
set_option maxHeartbeats 4000000
/-! the head 3: what calls bind -/
namespace K35
open PySem PySem.Spec PyProof.Rows L2
section
variable {K : PySem.W.Frag} {f : Addr} {fd : FuncData} {v : V}
theorem bind_tinit3 (F : FunD K "__init__" "Table.__init__" (defArgs s_tinit) (defBody s_tinit) (defScope s_tinit) [v] [] f fd) : Binds K fd ["self", "width", "rows"] [] := by
  obtain ⟨ds, h1, h2⟩ := F.binds1 (ps := ["self", "width", "rows"]) 3 1 (by simp) rfl fun T kV doc pm an cdv ct us its l1 l2 => match us, l1, its, l2 with | [_, _, _], _, [_], _ => ⟨_, rfl, rfl⟩
  cases h1
  exact h2
theorem bind_tinit2 (F : FunD K "__init__" "Table.__init__" (defArgs s_tinit) (defBody s_tinit) (defScope s_tinit) [v] [] f fd) : ∃ ds, Vals [v] ds ∧ Binds K fd ["self", "width", "rows"] ds :=
  F.binds1 (ps := ["self", "width", "rows"]) 2 0 (by simp) rfl fun T kV doc pm an cdv ct us its l1 l2 => match us, l1, its, l2 with | [_, _], _, [_], _ => ⟨_, rfl, rfl⟩
theorem bind_winit3 (F : FunD K "__init__" "Walk.__init__" (defArgs s_winit) (defBody s_winit) (defScope s_winit) [v] [] f fd) : Binds K fd ["self", "table", "streets"] [] := by
  obtain ⟨ds, h1, h2⟩ := F.binds1 (ps := ["self", "table", "streets"]) 3 1 (by simp) rfl fun T kV doc pm an cdv ct us its l1 l2 => match us, l1, its, l2 with | [_, _, _], _, [_], _ => ⟨_, rfl, rfl⟩
  cases h1
  exact h2
theorem bind_wof (F : FunD K "of" "Walk.of" (defArgs s_wof) (defBody s_wof) (defScope s_wof) [] [("start", .non)] f fd) : ∃ ds, Vals [.non] ds ∧ Binds K fd ["cls", "table", "word", "letters", "start"] ds :=
  F.binds0 (ps := ["cls", "table", "word", "letters", "start"]) 4 (by simp) rfl fun D doc pm an cdv ct us ks l1 l2 => match us, l1, ks, l2 with | [_, _, _, _], _, [_], _ => ⟨_, _, _, _, _, _, rfl, rfl, rfl⟩
theorem vals_app {vs zs : List V} {us ws : List Value} (h : Vals vs us) (h2 : Vals zs ws) : Vals (vs ++ zs) (us ++ ws) := by
  induction h with
  | nil => exact h2
  | cons a _ ih => exact .cons a ih
theorem kbn_wof (F : FunD K "of" "Walk.of" (defArgs s_wof) (defBody s_wof) (defScope s_wof) [] [("start", .non)] f fd) : KBn K fd ["cls", "table", "word", "letters", "start"] 4 ["start"] (fun us ws => us ++ ws) (fun vs zs => vs ++ zs) := by
  obtain ⟨oc, od, dV, kV, doc, pm, an, cdv, ct, osl, rfl, lk, hcd, hD, hK⟩ := F.ex
  rcases hD with ⟨_, rfl⟩ | ⟨e, _⟩
  · refine ⟨fun s us ws X l1 l2 => ?_, vals_app⟩
    match us, l1, ws, l2 with
    | [_, _, _, _], _, [_], _ => exact L2.BindsTo.of_looks fun M => PySem.W.Looks.of_pure rfl
  · exact absurd rfl e
theorem tup0_ok {t : Addr} (h : tup0 K t = true) (H : Hp) : SqT K H t [] := by
  unfold tup0 at h
  split at h
  · rename_i c d its n sl e
    obtain ⟨h1, h2⟩ := He.ba h
    have h1 := of_decide_eq_true h1
    have h2 := of_decide_eq_true h2
    subst h1
    refine .inr ⟨_, its, n, e, rfl, rfl, by omega, ?_⟩
    have : its.toList = [] := List.eq_nil_of_length_eq_zero (by simpa using h2)
    rw [this]
    exact .nil
  · cases h
end
end K35
/-! text F4 -/
set_option Elab.async false
set_option linter.all false
set_option maxRecDepth 100000
set_option maxHeartbeats 4000000
/-! the head 4: all facts, up to the law -/
namespace K35
open PySem PySem.Spec PyProof.Rows L2
theorem facts {P : Program} {w : World} {K : PySem.W.Frag} {h : Heap} {mg : Str → Option Value} {f : Addr} (X : K.In h) (G : h.Ns mainGlobals mg) (hfa : mg ("law" : Str) = some (.ref f)) (c : obsO K = valO) :
    ∃ fd : FuncData, (∀ (s : Shared) (v : Value), BindsTo s fd ⟨[v], []⟩ [("_law_script", v)]) ∧ ∀ base : Heap, K.In base → base.Ns mainGlobals mg → FnOk P w K mg base CX0 9 f fd ["_law_script"] (sp_law K) := by
  have c1 : He.SaysD fa fn K := congrArg (fun z : AlO => z.1) c
  have c2 : ownB K = true := congrArg (fun z : AlO => z.2.1) c
  have c3 : ownF K = ownV := congrArg (fun z : AlO => z.2.2) c
  have cW0 : fvA K (aW K) = fvOf "width" "Table.width" (inClass (top 24) 1) := (List.cons.inj c3).1
  have cT0 : fvA K (aT K) = fvOf "table" "Walk.table" (inClass (top 36) 3) := (List.cons.inj (List.cons.inj c3).2).1
  have cO0 : fvA K (aO K) = fvOf "of" "Walk.of" (inClass (top 36) 2) := (List.cons.inj (List.cons.inj (List.cons.inj c3).2).2).1
  obtain ⟨b1, c2⟩ := He.ba c2
  obtain ⟨b2, c2⟩ := He.ba c2
  obtain ⟨b3, c2⟩ := He.ba c2
  obtain ⟨b4, c2⟩ := He.ba c2
  obtain ⟨b5, c2⟩ := He.ba c2
  obtain ⟨b6, c2⟩ := He.ba c2
  obtain ⟨b7, c2⟩ := He.ba c2
  obtain ⟨b8, c2⟩ := He.ba c2
  obtain ⟨b9, c2⟩ := He.ba c2
  obtain ⟨b10, c2⟩ := He.ba c2
  obtain ⟨b11, c2⟩ := He.ba c2
  obtain ⟨b12, c2⟩ := He.ba c2
  obtain ⟨b13, b14⟩ := He.ba c2
  have hW : PropOf K (He.ga K "Table") "width" _ (aW K) := propB_ok b1
  have hT : PropOf K (He.ga K "Walk") "table" _ (aT K) := propB_ok b2
  have mO : ClX.CMet K (He.ga K "Walk") mcT "of" _ (aO K) := clsB_ok b3
  have rO : ClX.CRead K (He.ga K "Walk") mcT := rdB_ok b4
  have eT : EqC K (He.ga K "Table") (He.ma K (He.ga K "Table") "__eq__") := eqB_ok b5
  have eW : EqC K (He.ga K "Walk") (He.ma K (He.ga K "Walk") "__eq__") := eqB_ok b6
  have clT : Cls K (He.ga K "Table") := He.cls_ok (c1.fact 69 (f := .cls "Table") rfl)
  have clW : Cls K (He.ga K "Walk") := He.cls_ok (c1.fact 71 (f := .cls "Walk") rfl)
  have iT : C8.InsC K (He.ga K "Table") := insB_ok clT b7
  have iW : C8.InsC K (He.ga K "Walk") := insB_ok clW b8
  obtain ⟨iB, jB⟩ := trB_ok b9
  obtain ⟨fd_Table_width, F_Table_width⟩ := fA_ok cW0 b10
  obtain ⟨fd_Walk_table, F_Walk_table⟩ := fA_ok cT0 b11
  obtain ⟨fd_Walk_of, F_Walk_of⟩ := fA_ok cO0 b12
  have h0 := fun H => tup0_ok b13 H
  have hpl : He.ga K "plus_tables" = He.ga K "plus" := of_decide_eq_true b14
  obtain ⟨fd_is_number, F_is_number⟩ := c1.def_ 0 (d := fn[0]) rfl
  obtain ⟨fd_is_counts, F_is_counts⟩ := c1.def_ 1 (d := fn[1]) rfl
  obtain ⟨fd_check_counts, F_check_counts⟩ := c1.def_ 2 (d := fn[2]) rfl
  obtain ⟨fd_plus, F_plus⟩ := c1.def_ 3 (d := fn[3]) rfl
  obtain ⟨fd_minus, F_minus⟩ := c1.def_ 4 (d := fn[4]) rfl
  obtain ⟨fd_scaled, F_scaled⟩ := c1.def_ 5 (d := fn[5]) rfl
  obtain ⟨fd_lead_of, F_lead_of⟩ := c1.def_ 6 (d := fn[6]) rfl
  obtain ⟨fd_normal, F_normal⟩ := c1.def_ 7 (d := fn[7]) rfl
  obtain ⟨fd_size_of, F_size_of⟩ := c1.def_ 8 (d := fn[8]) rfl
  obtain ⟨fd_Table___init__, F_Table___init__⟩ := c1.def_ 9 (d := fn[9]) rfl
  obtain ⟨fd_Table_rows, F_Table_rows⟩ := c1.def_ 10 (d := fn[10]) rfl
  obtain ⟨fd_Table_reduced, F_Table_reduced⟩ := c1.def_ 11 (d := fn[11]) rfl
  obtain ⟨fd_Table_place, F_Table_place⟩ := c1.def_ 12 (d := fn[12]) rfl
  obtain ⟨fd_Table___eq__, F_Table___eq__⟩ := c1.def_ 13 (d := fn[13]) rfl
  obtain ⟨fd_swapped, F_swapped⟩ := c1.def_ 14 (d := fn[14]) rfl
  obtain ⟨fd_is_word, F_is_word⟩ := c1.def_ 15 (d := fn[15]) rfl
  obtain ⟨fd_check_words, F_check_words⟩ := c1.def_ 16 (d := fn[16]) rfl
  obtain ⟨fd_opposite, F_opposite⟩ := c1.def_ 17 (d := fn[17]) rfl
  obtain ⟨fd_shortened, F_shortened⟩ := c1.def_ 18 (d := fn[18]) rfl
  obtain ⟨fd_counts_of, F_counts_of⟩ := c1.def_ 19 (d := fn[19]) rfl
  obtain ⟨fd_stepped, F_stepped⟩ := c1.def_ 20 (d := fn[20]) rfl
  obtain ⟨fd_streets_of, F_streets_of⟩ := c1.def_ 21 (d := fn[21]) rfl
  obtain ⟨fd_Walk___init__, F_Walk___init__⟩ := c1.def_ 22 (d := fn[22]) rfl
  obtain ⟨fd_Walk_add, F_Walk_add⟩ := c1.def_ 23 (d := fn[23]) rfl
  obtain ⟨fd_Walk_streets, F_Walk_streets⟩ := c1.def_ 24 (d := fn[24]) rfl
  obtain ⟨fd_Walk_at_street, F_Walk_at_street⟩ := c1.def_ 25 (d := fn[25]) rfl
  obtain ⟨fd_Walk_ends, F_Walk_ends⟩ := c1.def_ 26 (d := fn[26]) rfl
  obtain ⟨fd_Walk_moved, F_Walk_moved⟩ := c1.def_ 27 (d := fn[27]) rfl
  obtain ⟨fd_Walk_times, F_Walk_times⟩ := c1.def_ 28 (d := fn[28]) rfl
  obtain ⟨fd_Walk_minus, F_Walk_minus⟩ := c1.def_ 29 (d := fn[29]) rfl
  obtain ⟨fd_Walk___bool__, F_Walk___bool__⟩ := c1.def_ 30 (d := fn[30]) rfl
  obtain ⟨fd_Walk___eq__, F_Walk___eq__⟩ := c1.def_ 31 (d := fn[31]) rfl
  obtain ⟨fd_road, F_road⟩ := c1.def_ 32 (d := fn[32]) rfl
  obtain ⟨fd_free, F_free⟩ := c1.def_ 33 (d := fn[33]) rfl
  obtain ⟨fd_rolled, F_rolled⟩ := c1.def_ 34 (d := fn[34]) rfl
  obtain ⟨fd_end_of, F_end_of⟩ := c1.def_ 35 (d := fn[35]) rfl
  obtain ⟨fd_word_of, F_word_of⟩ := c1.def_ 36 (d := fn[36]) rfl
  obtain ⟨fd_summed, F_summed⟩ := c1.def_ 37 (d := fn[37]) rfl
  obtain ⟨fd_sum_left, F_sum_left⟩ := c1.def_ 38 (d := fn[38]) rfl
  obtain ⟨fd_is_before, F_is_before⟩ := c1.def_ 39 (d := fn[39]) rfl
  obtain ⟨fd_shifts, F_shifts⟩ := c1.def_ 40 (d := fn[40]) rfl
  obtain ⟨fd_turner, F_turner⟩ := c1.def_ 41 (d := fn[41]) rfl
  obtain ⟨fd_turned, F_turned⟩ := c1.def_ 42 (d := fn[42]) rfl
  obtain ⟨fd__law_begin, F__law_begin⟩ := c1.def_ 43 (d := fn[43]) rfl
  obtain ⟨fd__law_draw, F__law_draw⟩ := c1.def_ 44 (d := fn[44]) rfl
  obtain ⟨fd__law_any, F__law_any⟩ := c1.def_ 45 (d := fn[45]) rfl
  obtain ⟨fd__law_letters, F__law_letters⟩ := c1.def_ 46 (d := fn[46]) rfl
  obtain ⟨fd__law_signs, F__law_signs⟩ := c1.def_ 47 (d := fn[47]) rfl
  obtain ⟨fd__law_back, F__law_back⟩ := c1.def_ 48 (d := fn[48]) rfl
  obtain ⟨fd__law_some_word, F__law_some_word⟩ := c1.def_ 49 (d := fn[49]) rfl
  obtain ⟨fd__law_gone_back, F__law_gone_back⟩ := c1.def_ 50 (d := fn[50]) rfl
  obtain ⟨fd__law_number_of, F__law_number_of⟩ := c1.def_ 51 (d := fn[51]) rfl
  obtain ⟨fd__law_add, F__law_add⟩ := c1.def_ 52 (d := fn[52]) rfl
  obtain ⟨fd__law_less, F__law_less⟩ := c1.def_ 53 (d := fn[53]) rfl
  obtain ⟨fd__law_by, F__law_by⟩ := c1.def_ 54 (d := fn[54]) rfl
  obtain ⟨fd__law_unit, F__law_unit⟩ := c1.def_ 55 (d := fn[55]) rfl
  obtain ⟨fd__law_first_at, F__law_first_at⟩ := c1.def_ 56 (d := fn[56]) rfl
  obtain ⟨fd__law_normal, F__law_normal⟩ := c1.def_ 57 (d := fn[57]) rfl
  obtain ⟨fd__law_named, F__law_named⟩ := c1.def_ 58 (d := fn[58]) rfl
  obtain ⟨fd__law_walk_of, F__law_walk_of⟩ := c1.def_ 59 (d := fn[59]) rfl
  obtain ⟨fd__law_carried, F__law_carried⟩ := c1.def_ 60 (d := fn[60]) rfl
  obtain ⟨fd__law_free_walk, F__law_free_walk⟩ := c1.def_ 61 (d := fn[61]) rfl
  obtain ⟨fd__law_turns, F__law_turns⟩ := c1.def_ 62 (d := fn[62]) rfl
  obtain ⟨fd__law_all_words, F__law_all_words⟩ := c1.def_ 63 (d := fn[63]) rfl
  obtain ⟨fd_law, F_law⟩ := c1.def_ 64 (d := fn[64]) rfl
  have g_is_number : mg "is_number" = some (.ref (He.ga K "is_number")) := He.glo_ok X G (c1.fact 0 (f := .glo "is_number") rfl)
  have g_is_counts : mg "is_counts" = some (.ref (He.ga K "is_counts")) := He.glo_ok X G (c1.fact 1 (f := .glo "is_counts") rfl)
  have g_check_counts : mg "check_counts" = some (.ref (He.ga K "check_counts")) := He.glo_ok X G (c1.fact 2 (f := .glo "check_counts") rfl)
  have g_plus : mg "plus" = some (.ref (He.ga K "plus")) := He.glo_ok X G (c1.fact 3 (f := .glo "plus") rfl)
  have g_plus_tables : mg "plus_tables" = some (.ref (He.ga K "plus_tables")) := He.glo_ok X G (c1.fact 4 (f := .glo "plus_tables") rfl)
  have g_minus : mg "minus" = some (.ref (He.ga K "minus")) := He.glo_ok X G (c1.fact 5 (f := .glo "minus") rfl)
  have g_scaled : mg "scaled" = some (.ref (He.ga K "scaled")) := He.glo_ok X G (c1.fact 6 (f := .glo "scaled") rfl)
  have g_lead_of : mg "lead_of" = some (.ref (He.ga K "lead_of")) := He.glo_ok X G (c1.fact 7 (f := .glo "lead_of") rfl)
  have g_normal : mg "normal" = some (.ref (He.ga K "normal")) := He.glo_ok X G (c1.fact 8 (f := .glo "normal") rfl)
  have g_size_of : mg "size_of" = some (.ref (He.ga K "size_of")) := He.glo_ok X G (c1.fact 9 (f := .glo "size_of") rfl)
  have g_swapped : mg "swapped" = some (.ref (He.ga K "swapped")) := He.glo_ok X G (c1.fact 10 (f := .glo "swapped") rfl)
  have g_is_word : mg "is_word" = some (.ref (He.ga K "is_word")) := He.glo_ok X G (c1.fact 11 (f := .glo "is_word") rfl)
  have g_check_words : mg "check_words" = some (.ref (He.ga K "check_words")) := He.glo_ok X G (c1.fact 12 (f := .glo "check_words") rfl)
  have g_opposite : mg "opposite" = some (.ref (He.ga K "opposite")) := He.glo_ok X G (c1.fact 13 (f := .glo "opposite") rfl)
  have g_shortened : mg "shortened" = some (.ref (He.ga K "shortened")) := He.glo_ok X G (c1.fact 14 (f := .glo "shortened") rfl)
  have g_counts_of : mg "counts_of" = some (.ref (He.ga K "counts_of")) := He.glo_ok X G (c1.fact 15 (f := .glo "counts_of") rfl)
  have g_stepped : mg "stepped" = some (.ref (He.ga K "stepped")) := He.glo_ok X G (c1.fact 16 (f := .glo "stepped") rfl)
  have g_streets_of : mg "streets_of" = some (.ref (He.ga K "streets_of")) := He.glo_ok X G (c1.fact 17 (f := .glo "streets_of") rfl)
  have g_road : mg "road" = some (.ref (He.ga K "road")) := He.glo_ok X G (c1.fact 18 (f := .glo "road") rfl)
  have g_free : mg "free" = some (.ref (He.ga K "free")) := He.glo_ok X G (c1.fact 19 (f := .glo "free") rfl)
  have g_rolled : mg "rolled" = some (.ref (He.ga K "rolled")) := He.glo_ok X G (c1.fact 20 (f := .glo "rolled") rfl)
  have g_end_of : mg "end_of" = some (.ref (He.ga K "end_of")) := He.glo_ok X G (c1.fact 21 (f := .glo "end_of") rfl)
  have g_word_of : mg "word_of" = some (.ref (He.ga K "word_of")) := He.glo_ok X G (c1.fact 22 (f := .glo "word_of") rfl)
  have g_summed : mg "summed" = some (.ref (He.ga K "summed")) := He.glo_ok X G (c1.fact 23 (f := .glo "summed") rfl)
  have g_sum_left : mg "sum_left" = some (.ref (He.ga K "sum_left")) := He.glo_ok X G (c1.fact 24 (f := .glo "sum_left") rfl)
  have g_is_before : mg "is_before" = some (.ref (He.ga K "is_before")) := He.glo_ok X G (c1.fact 25 (f := .glo "is_before") rfl)
  have g_shifts : mg "shifts" = some (.ref (He.ga K "shifts")) := He.glo_ok X G (c1.fact 26 (f := .glo "shifts") rfl)
  have g_turner : mg "turner" = some (.ref (He.ga K "turner")) := He.glo_ok X G (c1.fact 27 (f := .glo "turner") rfl)
  have g_turned : mg "turned" = some (.ref (He.ga K "turned")) := He.glo_ok X G (c1.fact 28 (f := .glo "turned") rfl)
  have g__law_begin : mg "_law_begin" = some (.ref (He.ga K "_law_begin")) := He.glo_ok X G (c1.fact 29 (f := .glo "_law_begin") rfl)
  have g__law_draw : mg "_law_draw" = some (.ref (He.ga K "_law_draw")) := He.glo_ok X G (c1.fact 30 (f := .glo "_law_draw") rfl)
  have g__law_any : mg "_law_any" = some (.ref (He.ga K "_law_any")) := He.glo_ok X G (c1.fact 31 (f := .glo "_law_any") rfl)
  have g__law_letters : mg "_law_letters" = some (.ref (He.ga K "_law_letters")) := He.glo_ok X G (c1.fact 32 (f := .glo "_law_letters") rfl)
  have g__law_signs : mg "_law_signs" = some (.ref (He.ga K "_law_signs")) := He.glo_ok X G (c1.fact 33 (f := .glo "_law_signs") rfl)
  have g__law_back : mg "_law_back" = some (.ref (He.ga K "_law_back")) := He.glo_ok X G (c1.fact 34 (f := .glo "_law_back") rfl)
  have g__law_some_word : mg "_law_some_word" = some (.ref (He.ga K "_law_some_word")) := He.glo_ok X G (c1.fact 35 (f := .glo "_law_some_word") rfl)
  have g__law_gone_back : mg "_law_gone_back" = some (.ref (He.ga K "_law_gone_back")) := He.glo_ok X G (c1.fact 36 (f := .glo "_law_gone_back") rfl)
  have g__law_number_of : mg "_law_number_of" = some (.ref (He.ga K "_law_number_of")) := He.glo_ok X G (c1.fact 37 (f := .glo "_law_number_of") rfl)
  have g__law_add : mg "_law_add" = some (.ref (He.ga K "_law_add")) := He.glo_ok X G (c1.fact 38 (f := .glo "_law_add") rfl)
  have g__law_less : mg "_law_less" = some (.ref (He.ga K "_law_less")) := He.glo_ok X G (c1.fact 39 (f := .glo "_law_less") rfl)
  have g__law_by : mg "_law_by" = some (.ref (He.ga K "_law_by")) := He.glo_ok X G (c1.fact 40 (f := .glo "_law_by") rfl)
  have g__law_unit : mg "_law_unit" = some (.ref (He.ga K "_law_unit")) := He.glo_ok X G (c1.fact 41 (f := .glo "_law_unit") rfl)
  have g__law_first_at : mg "_law_first_at" = some (.ref (He.ga K "_law_first_at")) := He.glo_ok X G (c1.fact 42 (f := .glo "_law_first_at") rfl)
  have g__law_normal : mg "_law_normal" = some (.ref (He.ga K "_law_normal")) := He.glo_ok X G (c1.fact 43 (f := .glo "_law_normal") rfl)
  have g__law_named : mg "_law_named" = some (.ref (He.ga K "_law_named")) := He.glo_ok X G (c1.fact 44 (f := .glo "_law_named") rfl)
  have g__law_walk_of : mg "_law_walk_of" = some (.ref (He.ga K "_law_walk_of")) := He.glo_ok X G (c1.fact 45 (f := .glo "_law_walk_of") rfl)
  have g__law_carried : mg "_law_carried" = some (.ref (He.ga K "_law_carried")) := He.glo_ok X G (c1.fact 46 (f := .glo "_law_carried") rfl)
  have g__law_free_walk : mg "_law_free_walk" = some (.ref (He.ga K "_law_free_walk")) := He.glo_ok X G (c1.fact 47 (f := .glo "_law_free_walk") rfl)
  have g__law_turns : mg "_law_turns" = some (.ref (He.ga K "_law_turns")) := He.glo_ok X G (c1.fact 48 (f := .glo "_law_turns") rfl)
  have g__law_all_words : mg "_law_all_words" = some (.ref (He.ga K "_law_all_words")) := He.glo_ok X G (c1.fact 49 (f := .glo "_law_all_words") rfl)
  have g_law : mg "law" = some (.ref (He.ga K "law")) := He.glo_ok X G (c1.fact 50 (f := .glo "law") rfl)
  have g_Table : mg "Table" = some (.ref (He.ga K "Table")) := He.glo_ok X G (c1.fact 51 (f := .glo "Table") rfl)
  have g_Walk : mg "Walk" = some (.ref (He.ga K "Walk")) := He.glo_ok X G (c1.fact 52 (f := .glo "Walk") rfl)
  rw [hpl] at g_plus_tables
  obtain ⟨tM, gMOST⟩ := He.int_ok X G (c1.fact 53 (f := .int "MOST_WIDTH" 3) rfl)
  obtain ⟨tL, gLOW⟩ := He.str_ok X G (c1.fact 54 (f := .str "LOWER" "abcdefghijklmnopqrstuvwxyz") rfl)
  have B : Fre mg := ⟨He.free_ok X G (c1.fact 55 (f := .free "len") rfl), He.free_ok X G (c1.fact 56 (f := .free "isinstance") rfl), He.free_ok X G (c1.fact 57 (f := .free "int") rfl), He.free_ok X G (c1.fact 58 (f := .free "bool") rfl), He.free_ok X G (c1.fact 59 (f := .free "tuple") rfl), He.free_ok X G (c1.fact 60 (f := .free "all") rfl), He.free_ok X G (c1.fact 61 (f := .free "zip") rfl), He.free_ok X G (c1.fact 62 (f := .free "abs") rfl), He.free_ok X G (c1.fact 63 (f := .free "enumerate") rfl), He.free_ok X G (c1.fact 64 (f := .free "range") rfl), He.free_ok X G (c1.fact 65 (f := .free "list") rfl), He.free_ok X G (c1.fact 66 (f := .free "sorted") rfl), He.free_ok X G (c1.fact 67 (f := .free "max") rfl), He.free_ok X G (c1.fact 68 (f := .free "dict") rfl)⟩
  have Tt : TabF K (He.ga K "Table") := ⟨clT, He.noat_ok (c1.fact 73 (f := .noat "Table" "own_width") rfl), He.noat_ok (c1.fact 74 (f := .noat "Table" "normal_rows") rfl), He.noat_ok (c1.fact 75 (f := .noat "Table" "leads") rfl), He.noat_ok (c1.fact 76 (f := .noat "Table" "identity") rfl), He.noat_ok (c1.fact 77 (f := .noat "Table" "own_size") rfl)⟩
  have Tw : WalF K (He.ga K "Walk") := ⟨clW, He.noat_ok (c1.fact 78 (f := .noat "Walk" "own_table") rfl), He.noat_ok (c1.fact 79 (f := .noat "Walk" "known") rfl), He.noat_ok (c1.fact 80 (f := .noat "Walk" "identity") rfl)⟩
  have m_Table_rows : Meth K (He.ga K "Table") "rows" (He.ma K (He.ga K "Table") "rows") := He.meth_ok (c1.fact 81 (f := .meth "Table" "rows") rfl)
  have m_Table_reduced : Meth K (He.ga K "Table") "reduced" (He.ma K (He.ga K "Table") "reduced") := He.meth_ok (c1.fact 82 (f := .meth "Table" "reduced") rfl)
  have m_Table_place : Meth K (He.ga K "Table") "place" (He.ma K (He.ga K "Table") "place") := He.meth_ok (c1.fact 83 (f := .meth "Table" "place") rfl)
  have m_Table___eq__ : Meth K (He.ga K "Table") "__eq__" (He.ma K (He.ga K "Table") "__eq__") := He.meth_ok (c1.fact 84 (f := .meth "Table" "__eq__") rfl)
  have m_Walk_add : Meth K (He.ga K "Walk") "add" (He.ma K (He.ga K "Walk") "add") := He.meth_ok (c1.fact 85 (f := .meth "Walk" "add") rfl)
  have m_Walk_streets : Meth K (He.ga K "Walk") "streets" (He.ma K (He.ga K "Walk") "streets") := He.meth_ok (c1.fact 86 (f := .meth "Walk" "streets") rfl)
  have m_Walk_at_street : Meth K (He.ga K "Walk") "at_street" (He.ma K (He.ga K "Walk") "at_street") := He.meth_ok (c1.fact 87 (f := .meth "Walk" "at_street") rfl)
  have m_Walk_ends : Meth K (He.ga K "Walk") "ends" (He.ma K (He.ga K "Walk") "ends") := He.meth_ok (c1.fact 88 (f := .meth "Walk" "ends") rfl)
  have m_Walk_moved : Meth K (He.ga K "Walk") "moved" (He.ma K (He.ga K "Walk") "moved") := He.meth_ok (c1.fact 89 (f := .meth "Walk" "moved") rfl)
  have m_Walk_times : Meth K (He.ga K "Walk") "times" (He.ma K (He.ga K "Walk") "times") := He.meth_ok (c1.fact 90 (f := .meth "Walk" "times") rfl)
  have m_Walk_minus : Meth K (He.ga K "Walk") "minus" (He.ma K (He.ga K "Walk") "minus") := He.meth_ok (c1.fact 91 (f := .meth "Walk" "minus") rfl)
  have m_Walk___eq__ : Meth K (He.ga K "Walk") "__eq__" (He.ma K (He.ga K "Walk") "__eq__") := He.meth_ok (c1.fact 92 (f := .meth "Walk" "__eq__") rfl)
  have m_Walk___bool__ : Meth K (He.ga K "Walk") "__bool__" (He.ma K (He.ga K "Walk") "__bool__") := He.meth_ok (c1.fact 93 (f := .meth "Walk" "__bool__") rfl)
  have MkT : Mk K (He.ga K "Table") (He.ma K (He.ga K "Table") "__init__") := He.mkr_ok (c1.fact 70 (f := .mkr "Table") rfl)
  have MkW : Mk K (He.ga K "Walk") (He.ma K (He.ga K "Walk") "__init__") := He.mkr_ok (c1.fact 72 (f := .mkr "Walk") rfl)
  have kCW : PySem.W.keepIn K (.ref (He.ga K "check_words")) = true := He.keep_ok (c1.fact 94 (f := .keep "check_words") rfl)
  have bT3 := bind_tinit3 F_Table___init__
  obtain ⟨dsT, vT2, bT2⟩ := bind_tinit2 F_Table___init__
  have bW3 := bind_winit3 F_Walk___init__
  obtain ⟨dsO, vO, bO⟩ := bind_wof F_Walk_of
  have kO := kbn_wof F_Walk_of
  have e := hfa.symm.trans g_law
  cases e
  refine ⟨fd_law, fun s v => FunD.bindsA (ps := ["_law_script"]) F_law (fun _ _ _ _ _ _ us hl => match us, hl with | [_], _ => rfl) s [v] rfl, fun base hb1 hb2 => ?_⟩
  have C_swapped := c_swapped (P := P) (w := w) (mg := mg) (base := base) F_swapped gLOW
  have C_opposite := c_opposite (P := P) (w := w) (mg := mg) (base := base) F_opposite C_swapped g_swapped
  have C__law_back := c__law_back (P := P) (w := w) (mg := mg) (base := base) F__law_back
  have C__law_gone_back := c__law_gone_back (P := P) (w := w) (mg := mg) (base := base) F__law_gone_back C__law_back g__law_back
  have C_is_word := c_is_word (P := P) (w := w) (mg := mg) (base := base) F_is_word B gLOW
  have C_check_words := c_check_words (P := P) (w := w) (mg := mg) (base := base) F_check_words B C_is_word g_is_word
  have C_counts_of := c_counts_of (P := P) (w := w) (mg := mg) (base := base) F_counts_of B C_swapped g_swapped
  have C__law_number_of := c__law_number_of (P := P) (w := w) (mg := mg) (base := base) F__law_number_of B
  have C__law_signs := c__law_signs (P := P) (w := w) (mg := mg) (base := base) F__law_signs
  have C_shortened := c_shortened (P := P) (w := w) (mg := mg) (base := base) F_shortened C_swapped g_swapped
  have C_plus := c_plus (P := P) (w := w) (mg := mg) (base := base) F_plus B
  have C_minus := c_minus (P := P) (w := w) (mg := mg) (base := base) F_minus B
  have C__law_add := c__law_add (P := P) (w := w) (mg := mg) (base := base) F__law_add B
  have C__law_less := c__law_less (P := P) (w := w) (mg := mg) (base := base) F__law_less B
  have C_scaled := c_scaled (P := P) (w := w) (mg := mg) (base := base) F_scaled B
  have C__law_by := c__law_by (P := P) (w := w) (mg := mg) (base := base) F__law_by B
  have C__law_unit := c__law_unit (P := P) (w := w) (mg := mg) (base := base) F__law_unit B
  have C__law_first_at := c__law_first_at (P := P) (w := w) (mg := mg) (base := base) F__law_first_at B
  have C_lead_of := c_lead_of (P := P) (w := w) (mg := mg) (base := base) F_lead_of B
  have C_is_number := c_is_number (P := P) (w := w) (mg := mg) (base := base) F_is_number B
  have C_is_counts := c_is_counts (P := P) (w := w) (mg := mg) (base := base) F_is_counts B C_is_number g_is_number
  have C_check_counts := c_check_counts (P := P) (w := w) (mg := mg) (base := base) F_check_counts C_is_counts g_is_counts
  have C_stepped := c_stepped (P := P) (w := w) (mg := mg) (base := base) F_stepped
  have C_is_before := c_is_before (P := P) (w := w) (mg := mg) (base := base) F_is_before B C_minus g_minus
  have C_streets_of := c_streets_of (P := P) (w := w) (mg := mg) (base := base) F_streets_of gLOW C_stepped g_stepped
  have C_road := c_road (P := P) (w := w) (mg := mg) (base := base) F_road B C_swapped g_swapped
  have C_normal := c_normal (P := P) (w := w) (mg := mg) (base := base) F_normal B C_scaled g_scaled
  have C_size_of := c_size_of (P := P) (w := w) (mg := mg) (base := base) F_size_of B
  have C_Table___init__ := ok_tinit (P := P) (w := w) (mg := mg) (base := base) F_Table___init__ B Tt gMOST C_is_number g_is_number C_is_counts g_is_counts C_normal g_normal C_lead_of g_lead_of C_size_of g_size_of
  have C_Table_width := c_twidth (P := P) (w := w) (mg := mg) (base := base) F_Table_width Tt
  have C_Table_rows := c_trows (P := P) (w := w) (mg := mg) (base := base) F_Table_rows B Tt
  have C_Table_reduced := c_tred (P := P) (w := w) (mg := mg) (base := base) F_Table_reduced B Tt C_minus g_minus C_scaled g_scaled
  have C_Table_place := c_tplace (P := P) (w := w) (mg := mg) (base := base) F_Table_place Tt C_check_counts g_check_counts C_Table_reduced m_Table_reduced
  have C_Table___eq__ := c_teq (P := P) (w := w) (mg := mg) (base := base) F_Table___eq__ B Tt iT g_Table
  have C_Walk_add := c_wadd (P := P) (w := w) (mg := mg) (base := base) F_Walk_add Tw
  have C_Walk_streets := c_wstr (P := P) (w := w) (mg := mg) (base := base) F_Walk_streets B Tw
  have C_Walk___init__ := ok_winit (P := P) (w := w) (mg := mg) (base := base) (CT := (He.ga K "Table")) F_Walk___init__ B Tt Tw C_is_number g_is_number C_is_counts g_is_counts C_Table_width hW C_Table_reduced m_Table_reduced C_Walk_add m_Walk_add C_Walk_streets m_Walk_streets
  have C_Walk_of := ok_wof (P := P) (w := w) (mg := mg) (base := base) (ds := []) (CT := (He.ga K "Table")) F_Walk_of B Tt C_check_words kCW g_check_words C_Table_width hW C_check_counts g_check_counts C_streets_of g_streets_of MkW C_Walk___init__ bW3
  have C_Walk_table := c_wtab (P := P) (w := w) (mg := mg) (base := base) F_Walk_table Tw
  have C_Walk_at_street := c_wat (P := P) (w := w) (mg := mg) (base := base) (CT := (He.ga K "Table")) F_Walk_at_street Tt Tw C_is_number g_is_number C_Table_width hW C_Table_place m_Table_place
  have C_Walk___bool__ := c_wbool (P := P) (w := w) (mg := mg) (base := base) (CT := (He.ga K "Table")) F_Walk___bool__ B Tw
  have C_Walk___eq__ := c_weq (P := P) (w := w) (mg := mg) (base := base) (CT := (He.ga K "Table")) F_Walk___eq__ B Tw iW g_Walk
  have C_Walk_ends := c_wends (P := P) (w := w) (mg := mg) (base := base) (CT := (He.ga K "Table")) F_Walk_ends B Tt Tw C_stepped g_stepped C_Table_reduced m_Table_reduced
  have C_Walk_moved := c_wmov (P := P) (w := w) (mg := mg) (base := base) (CT := (He.ga K "Table")) F_Walk_moved Tt Tw g_Walk C_Table_width hW C_check_counts g_check_counts C_plus g_plus_tables C_Walk_streets m_Walk_streets MkW C_Walk___init__ bW3
  have C_Walk_times := c_wtim (P := P) (w := w) (mg := mg) (base := base) (CT := (He.ga K "Table")) F_Walk_times Tw g_Walk C_Walk_streets m_Walk_streets MkW C_Walk___init__ bW3
  have C_Walk_minus := c_wmin (P := P) (w := w) (mg := mg) (base := base) (CT := (He.ga K "Table")) F_Walk_minus Tw g_Walk C_Walk_streets m_Walk_streets eT C_Table___eq__ C_Walk_times m_Walk_times MkW C_Walk___init__ bW3
  have C_free := c_free (P := P) (w := w) (mg := mg) (base := base) (CT := (He.ga K "Table")) F_free B g_Table MkT C_Table___init__ bT2 vT2 h0
  have C_rolled := c_rolled (P := P) (w := w) (mg := mg) (base := base) (CT := (He.ga K "Table")) F_rolled B g_Table g_Walk MkT C_Table___init__ bT3 C_check_words kCW g_check_words C_counts_of g_counts_of rO mO C_Walk_of bO vO
  have C_end_of := c_end_of (P := P) (w := w) (mg := mg) (base := base) (CT := (He.ga K "Table")) F_end_of B Tt Tw C_Table_width hW C_Walk_table hT C_Walk_ends m_Walk_ends
  have C_word_of := c_word_of (P := P) (w := w) (mg := mg) (base := base) (CT := (He.ga K "Table")) F_word_of B Tt Tw C_Table_width hW C_Walk_table hT C_Table_rows m_Table_rows C_end_of g_end_of C_Walk_streets m_Walk_streets C_stepped g_stepped C_opposite g_opposite C_road g_road C_shortened g_shortened
  have C_sum_left := c_sum_left (P := P) (w := w) (mg := mg) (base := base) (CT := (He.ga K "Table")) F_sum_left Tw C_Walk_streets m_Walk_streets C_is_before g_is_before
  have C_shifts := c_shifts (P := P) (w := w) (mg := mg) (base := base) (CT := (He.ga K "Table")) F_shifts Tw C_Walk_streets m_Walk_streets C_minus g_minus
  have C_summed := c_summed (P := P) (w := w) (mg := mg) (base := base) (CT := (He.ga K "Table")) F_summed Tw g_Walk C_Walk_streets m_Walk_streets C_sum_left g_sum_left C_plus g_plus_tables C_Walk_at_street m_Walk_at_street C_Walk_table hT MkW C_Walk___init__ bW3
  have C_turned := c_turned (P := P) (w := w) (mg := mg) (base := base) (CT := (He.ga K "Table")) F_turned B Tw g_Walk C_counts_of g_counts_of C_road g_road C_free g_free rO mO C_Walk_of bO vO kO (fun _ _ _ _ _ => rfl) C_Walk_minus m_Walk_minus C_word_of g_word_of C_summed g_summed
  have C_turner := c_turner (P := P) (w := w) (mg := mg) (base := base) (CT := (He.ga K "Table")) F_turner Tw C_check_words kCW g_check_words C_counts_of g_counts_of C_rolled g_rolled C_shifts g_shifts C_Walk_moved m_Walk_moved C_turned g_turned C_Walk___bool__ iB jB eW C_Walk___eq__
  have C__law_begin := c__law_begin (P := P) (w := w) (mg := mg) (base := base) F__law_begin B
  have C__law_draw := c__law_draw (P := P) (w := w) (mg := mg) (base := base) F__law_draw B
  have C__law_any := c__law_any (P := P) (w := w) (mg := mg) (base := base) F__law_any B C__law_draw g__law_draw
  have C__law_letters := c__law_letters (P := P) (w := w) (mg := mg) (base := base) F__law_letters B C__law_any g__law_any
  have C__law_some_word := c__law_some_word (P := P) (w := w) (mg := mg) (base := base) F__law_some_word B C__law_any g__law_any C__law_draw g__law_draw C__law_signs g__law_signs
  have C__law_normal := c__law_normal (P := P) (w := w) (mg := mg) (base := base) (fL := (He.ga K "law")) (fdL := fd_law) F__law_normal B C__law_first_at g__law_first_at C__law_by g__law_by
  have C__law_named := c__law_named (P := P) (w := w) (mg := mg) (base := base) F__law_named B C__law_first_at g__law_first_at C__law_by g__law_by C__law_less g__law_less
  have C__law_walk_of := c__law_walk_of (P := P) (w := w) (mg := mg) (base := base) F__law_walk_of B C__law_named g__law_named C__law_add g__law_add C__law_unit g__law_unit C__law_by g__law_by
  have C__law_carried := c__law_carried (P := P) (w := w) (mg := mg) (base := base) F__law_carried B C__law_named g__law_named C__law_add g__law_add
  have C__law_free_walk := c__law_free_walk (P := P) (w := w) (mg := mg) (base := base) F__law_free_walk C__law_walk_of g__law_walk_of
  have C__law_turns := c__law_turns (P := P) (w := w) (mg := mg) (base := base) F__law_turns B C__law_free_walk g__law_free_walk C__law_gone_back g__law_gone_back
  have C__law_all_words := c__law_all_words (P := P) (w := w) (mg := mg) (base := base) F__law_all_words B C__law_signs g__law_signs
  have C_law := c_law (P := P) (w := w) (mg := mg) (base := base) plain_all F_law B C__law_begin g__law_begin C__law_draw g__law_draw C__law_any g__law_any C__law_letters g__law_letters C__law_some_word g__law_some_word C__law_gone_back g__law_gone_back C_turner g_turner C__law_all_words g__law_all_words C__law_turns g__law_turns C__law_number_of g__law_number_of C__law_normal g__law_normal C__law_walk_of g__law_walk_of C__law_carried g__law_carried C__law_less g__law_less
  exact C_law.F
end K35
/-! text F5 -/
set_option Elab.async false
set_option linter.all false
set_option maxRecDepth 100000
set_option maxHeartbeats 0
/-! the end: the statement from the head's run and the facts -/
open PySem PySem.W PySem.Calls PyProof.Rows
theorem PySem.Challenge.cw_roundswap_k35_whole_words_that_do_not_tu_holds : PySem.Challenge.rw_roundswap_k35_whole_words_that_do_not_tu.Holds := by
  w_on; o_law
  refine HandSHeadRun.head_any (r := K35.RO) (q := view K35.RO.prog [72]) (H := K35.hk) (ob := K35.ob) (M := 6000) (loose := K35.names0 ++ K35.names1 ++ K35.names2 ++ K35.names3 ++ K35.names4 ++ K35.names5) (d := HandSHeadRun.topDef K35.RO.prog 72) (kwd := []) K35.ob_eq
    (by kernel_rfl) (fun s => by kernel_rfl) K35.run (by kernel_rfl) (by kernel_rfl) (by kernel_rfl) (by rfl) (by first | assumption | decide +kernel) (by decide +kernel) ⟨rfl, rfl, rfl, rfl, rfl, by decide +kernel⟩ ?hw ?hc
  case hw => w_witness2
  case hc =>
    refine L2.walk_ofE (l := PySem.Challenge.rw_roundswap_k35_whole_words_that_do_not_tu) (n := 63) (k := 9) (x := "_law_script") (CX := L2.CX0) rfl (by decide) (by kernel_rfl) ⟨rfl, by decide, by decide⟩ ?F (fun _ _ _ _ z => z)
    intro w mg fa h Y G hmg0
    obtain ⟨K, KX, c⟩ := Y
    have hmg : mg ("law" : PySem.Str) = some (.ref fa) := by
      have e : (HandSHeadRun.topDef K35.RO.prog 72).name = ("law" : PySem.Str) := by kernel_rfl
      rw [← e]
      exact hmg0
    obtain ⟨fd, hb, hF⟩ := K35.facts (P := (PySem.Challenge.rw_roundswap_k35_whole_words_that_do_not_tu).prog) (w := w) KX G hmg c
    exact ⟨K, fd, K35.sp_law K, KX, hb, fun H a ns hl ho hS => ⟨a, ns, rfl, hS, fun _ => rfl⟩, hF⟩
