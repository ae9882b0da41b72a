import PyProof.Rows.All
import Wide.All
import OpenK.AllK
import Wide.FinOn
import HandS.ForMost
import HandS.Deep
import HandS.Codes
import HandS.IsInst
import HandS.Property
import HandS.Star
import HandS.ClsMeth
import HandS.Defaults
import HandS.DictComp
import HandS.Style
import HandS.Flow
import KE.KDictKeyed
import KE.SortData
import PySem.Challenge.RW_quietdoors_k59_whole_table_of_doors
set_option Elab.async false
set_option linter.all false
set_option maxRecDepth 100000
set_option maxHeartbeats 4000000
namespace QD
open PySem PySem.Spec PyProof.Rows L2

/-! ### a dict whose keys are (int, (text, int)) -/
abbrev NE := NestedKey × Addr × V
def NRel (p : NE) (q : NestedKey × Addr × Value) : Prop := p.1 = q.1 ∧ p.2.1 = q.2.1 ∧ RelV p.2.2 q.2.2
def NdPhi (P : Program) (w : World) (d : Addr) (L : List NE) (h : Heap) : Prop := L.length ≤ 1000 ∧ (d == sysModules) = false ∧ ∃ xs : List (NestedKey × Addr × Value), Paired NRel L xs ∧
  ∃ o es ep, h.get? d = some o ∧ o.ExactDict ∧ o.data = .dict es ep ∧ es.toList = xs.map (entryOfKey (nestedKind P w)) ∧ (xs.map (·.1)).Nodup
def NdO (P : Program) (w : World) (d : Addr) (L : List NE) : HO := .ext (NdPhi P w d L)
def KeyTup (K : PySem.W.Frag) (H : Hp) (k : NestedKey) (a : Addr) : Prop :=
  ∃ (i : Int) (x : Str) (j : Int) (t : Addr), k = .tup [.num i, .tup [.text x, .num j]] ∧ SqT K H a [.int i, .ref t] ∧ SqT K H t [.str x, .int j]

theorem nd_ok {P : Program} {w : World} {d : Addr} {L : List NE} {H : Hp} {h : Heap} (x : NdPhi P w d L h) : ObjOk P w H h d (NdO P w d L) := by
  refine ⟨x, ?_, ?_⟩
  · obtain ⟨_, _, xs, _, o, es, ep, e, _⟩ := x
    exact ⟨o, e⟩
  · rintro h1 h2 ⟨z, y, xs, r, o, es, ep, e, c⟩ k
    exact ⟨z, y, xs, r, o, es, ep, k _ e, c⟩

section
variable {X : Cx} {pins : List (Addr × Obj)} {σ : L2.St} {H : Hp} {s : Shared}
theorem key_is (I : Inv X pins σ H s) {k : NestedKey} {a : Addr} (h : KeyTup X.K H k a) : (nestedKind X.prog X.w).is s.heap k a := by
  obtain ⟨i, x, j, t, rfl, h1, h2⟩ := h
  obtain ⟨its1, r1, ⟨o1, e1, c1, n1, d1⟩, _⟩ := I.tuple h1
  obtain ⟨its2, r2, ⟨o2, e2, c2, n2, d2⟩, _⟩ := I.tuple h2
  cases r1 with
  | cons ra rb =>
    cases rb with
    | cons rc rd =>
      cases rd
      cases r2 with
      | cons re rf =>
        cases rf with
        | cons rg rh =>
          cases rh
          obtain ⟨t1, rfl⟩ := ra
          cases rc
          obtain ⟨t2, rfl⟩ := re
          obtain ⟨t3, rfl⟩ := rg
          exact ⟨.tup e1 c1 d1 (.cons (.int _ _) (.cons (.tup e2 c2 d2 (.cons (.text _ _) (.cons (.int _ _) .nil))) .nil)), by simp [NestedKey.depth, NestedKey.depthAll]⟩
theorem paired_is (I : Inv X pins σ H s) : ∀ {L : List NE} {xs : List (NestedKey × Addr × Value)}, Paired NRel L xs → (∀ p ∈ L, KeyTup X.K H p.1 p.2.1) → ∀ x ∈ xs, (nestedKind X.prog X.w).is s.heap x.1 x.2.1
  | _, _, .nil, _, x, hx => nomatch hx
  | _, _, .cons r t, h, x, hx => by
    rcases List.mem_cons.mp hx with e | hx
    · subst e
      obtain ⟨r1, r2, _⟩ := r
      rw [← r1, ← r2]
      exact key_is I (h _ List.mem_cons_self)
    · exact paired_is I t (fun p hp => h p (List.mem_cons_of_mem _ hp)) x hx
theorem nd_of (I : Inv X pins σ H s) {d : Addr} {L : List NE} (hd : H d = some (NdO X.prog X.w d L)) (hk : ∀ p ∈ L, KeyTup X.K H p.1 p.2.1) :
    L.length ≤ 1000 ∧ (d == sysModules) = false ∧ ∃ xs, Paired NRel L xs ∧ s.heap.DictOfH (nestedKind X.prog X.w) d xs := by
  obtain ⟨⟨z, y, xs, r, o, es, ep, e1, e2, e3, e4, e5⟩, _, _⟩ := (show ObjOk X.prog X.w H s.heap d (NdO X.prog X.w d L) from I.hok d _ hd)
  exact ⟨z, y, xs, r, o, es, ep, e1, e2, e3, e4, paired_is I r hk, e5⟩
/-- the entry of a key -/
def atN (L : List NE) (k : NestedKey) : Option NE := L.find? fun p => decide (p.1 = k)
theorem atN_rel (k : NestedKey) : ∀ {L : List NE} {xs : List (NestedKey × Addr × Value)}, Paired NRel L xs → RelO ((atN L k).map fun p => p.2.2) ((atKey xs k).map (·.2))
  | _, _, .nil => True.intro
  | _, _, .cons (a := p) (b := q) (l₁ := L) (l₂ := xs) r t => by
    have ih := atN_rel k t
    obtain ⟨r1, r2, r3⟩ := r
    by_cases e : p.1 = k
    · have e' : q.1 = k := by rw [← r1]; exact e
      have a1 : atN (p :: L) k = some p := by unfold atN; rw [List.find?_cons, decide_eq_true e]
      have a2 : (atKey (q :: xs) k).map (·.2) = some q.2.2 := by simp [atKey, e']
      rw [a1, a2]
      exact r3
    · have e' : ¬ q.1 = k := by rw [← r1]; exact e
      have a1 : atN (p :: L) k = atN L k := by unfold atN; rw [List.find?_cons, decide_eq_false e]
      have a2 : atKey (q :: xs) k = atKey xs k := by simp [atKey, e']
      rw [a1, a2]
      exact ih

/-! ### the three operations -/
def rNotInN (P : Program) (w : World) (K : PySem.W.Frag) : R2 := fun x y H Q => ∃ (d a : Addr) (k : NestedKey) (L : List NE), x = .ref a ∧ y = .ref d ∧ H d = some (NdO P w d L) ∧ KeyTup K H k a ∧ (∀ p ∈ L, KeyTup K H p.1 p.2.1) ∧ Q (.bl (!(atN L k).isSome)) H
def rIxN (P : Program) (w : World) (K : PySem.W.Frag) : R2 := fun x y H Q => ∃ (d a : Addr) (k : NestedKey) (L : List NE) (p : NE), x = .ref d ∧ y = .ref a ∧ H d = some (NdO P w d L) ∧ KeyTup K H k a ∧ (∀ p ∈ L, KeyTup K H p.1 p.2.1) ∧ atN L k = some p ∧ Q p.2.2 H
def rSetN (P : Program) (w : World) (K : PySem.W.Frag) : TSet := fun x y v H Q => ∃ (d a : Addr) (k : NestedKey) (L : List NE), x = .ref d ∧ y = .ref a ∧ H d = some (NdO P w d L) ∧ KeyTup K H k a ∧ (∀ p ∈ L, KeyTup K H p.1 p.2.1) ∧ atN L k = none ∧ L.length < 1000 ∧
  Q (upd H d (NdO P w d (L ++ [(k, a, v)])))
theorem room8 {A : Around} (hu : A.units + 64 < cLine) : (nestedKind (prog := X.prog) (w := X.w)).room A.in1 := by
  show A.units + 1 + 8 < cLine
  omega
theorem atN_some {L : List NE} {xs : List (NestedKey × Addr × Value)} (r : Paired NRel L xs) (k : NestedKey) : (atKey xs k).isSome = (atN L k).isSome := by
  have q := atN_rel k r
  cases h1 : atN L k with
  | none =>
    rw [h1] at q
    have := RelO.none_of q
    rw [Option.map_eq_none_iff] at this
    rw [this] <;> rfl
  | some p =>
    rw [h1] at q
    obtain ⟨u, h2, _⟩ := RelO.some_of q
    obtain ⟨z, h3, _⟩ := Option.map_eq_some_iff.mp h2
    rw [h3] <;> rfl
theorem op_notInN (hu : X.A.units + 64 < cLine) : OpR X (compareOp .NotIn) (rNotInN X.prog X.w X.K) := by
  intro pins s σ H x y v u Q I rx ry h
  obtain ⟨d, a, k, L, rfl, rfl, hd, hk, hL, q⟩ := h
  cases rx
  cases ry
  obtain ⟨z, hs, xs, r, dd⟩ := nd_of I hd hL
  refine wpAny_notIn_heap (room8 hu) (key_is I hk) hs dd ?_
  rw [atN_some r k]
  exact ⟨.bl _, H, I.tok _, rfl, q⟩
theorem ix_N (hu : X.A.units + 64 < cLine) : IxR X (rIxN X.prog X.w X.K) := by
  intro value slice pins s σ H x y v u Q I rx ry h hs
  obtain ⟨d, a, k, L, p, rfl, rfl, hd, hk, hL, hp, q⟩ := h
  cases rx
  cases ry
  obtain ⟨z, hsm, xs, r, dd⟩ := nd_of I hd hL
  have qr := atN_rel k r
  rw [hp] at qr
  obtain ⟨u, h2, ru⟩ := RelO.some_of qr
  obtain ⟨b, h3, h4⟩ := Option.map_eq_some_iff.mp h2
  have T := dd.typeIs (s := s)
  refine subscriptTail_builtinR (x := u) T PySem.F.slot_dict_getitem.lookup (wpAny_getItem_heap (room8 hu) (key_is I hk) dd h3 ?_) hs
  exact ⟨h4, ⟨p.2.2, H, I.tok _, by rw [h4]; exact ru, q⟩⟩
theorem set_N (hu : X.A.units + 64 < cLine) : PSet X (rSetN X.prog X.w X.K) := by
  intro pins s σ H o i v ov iv u Q I ro ri rv h
  obtain ⟨d, a, k, L, rfl, rfl, hd, hk, hL, hp, hlen, q⟩ := h
  cases ro
  cases ri
  obtain ⟨z, hsm, xs, r, dd⟩ := nd_of I hd hL
  have hn : atKey xs k = none := by
    have e := atN_some r k
    rw [hp] at e
    cases h : atKey xs k with
    | none => rfl
    | some b => rw [h] at e; cases e
  refine wpAny_setItem_heap (hsz := by rw [← r.length]; exact Nat.le_trans z (by decide)) (room8 hu) (key_is I hk) dd fun h' dd' sb => ?_
  rw [storedH_new hn] at dd'
  obtain ⟨o, es, ep, e1, e2, e3, e4, e5, e6⟩ := dd'
  refine ⟨upd H d (NdO X.prog X.w d (L ++ [(k, a, v)])), ?_, q⟩
  refine d_write I (by rw [hd]; exact True.intro) sb ⟨o, e1⟩ (nd_ok ⟨by rw [List.length_append]; exact hlen, hsm, xs ++ [(k, a, u)], Paired.snoc r ⟨rfl, rfl, rv⟩, o, es, ep, e1, e2, e3, e4, e6⟩)
/-- {} -/
def tNdNew (P : Program) (w : World) : TE := fun _ H Q => ∀ p, H p = none → Q (.ref p) (upd H p (NdO P w p []))
theorem pe_ndnew {pos : Pos} : PE X (.Dict [] [] pos) (tNdNew X.prog X.w) := ⟨fun pins s σ H Q I h =>
  wpAny_Dict_empty ⟨.ref s.heap.objs.size, _, I.laid (a := s.heap.objs.size) (o := NdO X.prog X.w s.heap.objs.size []) (t' := s.toks) (fun _ _ q => Heap.get?_push_of_some _ q) (Nat.le_refl _)
    (nd_ok ⟨Nat.zero_le _, beq_eq_false_iff_ne.mpr (Ne.symm (Nat.ne_of_lt I.big)), [], .nil, _, #[], 0, Heap.get?_push_size _ rfl, ⟨rfl, rfl, rfl⟩, rfl, rfl, List.nodup_nil⟩), rfl, h _ (I.hok.fresh (Nat.le_refl _))⟩⟩
end

/-! ### sorted of a list of (text, int) that is in order already -/
def adD (b : Str × Int) : PyData := .tuple [.str b.1, .int b.2]
theorem adD_le (x : Str) (i j : Int) (h : i ≤ j) (a b : Addr) : PySem.W.dataLe false (fun p : Addr × Str × Int => adD p.2) (a, x, i) (b, x, j) = true := by
  show (!PySem.W.dataLt (adD (x, j)) (adD (x, i))) = true
  unfold adD
  rw [PySem.W.dataLt_pair (by simp [PySem.W.alike]) (by simp [PySem.W.alike])]
  have e : PyData.eqv (.str x) (.str x) = true := by simp [PyData.eqv]
  rw [if_pos e]
  by_cases h2 : PyData.eqv (.int j) (.int i) = true
  · rw [if_pos h2] <;> rfl
  · rw [if_neg h2, PySem.W.dataLt_int]
    simp
    omega
/-- in order, the texts alike -/
def InOrd (l : List (Str × Int)) : Prop := l.Pairwise fun p q => p.1 = q.1 ∧ p.2 ≤ q.2
def rSortA (K : PySem.W.Frag) : List V → Hp → VK → Prop := fun vs H Q => ∃ (a : Addr) (L : List (Addr × Str × Int)), vs = [V.ref a] ∧ SqL K H a (L.map fun p => V.ref p.1) ∧ (∀ p ∈ L, SqT K H p.1 [.str p.2.1, .int p.2.2]) ∧ L.length ≤ 1000 ∧ InOrd (L.map (·.2)) ∧
  ∀ p, H p = none → Q (.ref p) (upd H p (.lst (L.map fun q => V.ref q.1)))
section
variable {X : Cx}
theorem sort_each {pins : List (Addr × Obj)} {σ : L2.St} {H : Hp} {s : Shared} (I : Inv X pins σ H s) : ∀ {L : List (Addr × Str × Int)} {its : List Value}, Vals (L.map fun p => V.ref p.1) its → (∀ p ∈ L, SqT X.K H p.1 [.str p.2.1, .int p.2.2]) →
    PySem.W.EachIs (fun v (b : Addr × Str × Int) => v = .ref b.1) its L ∧ PySem.W.EachIs (fun v (b : Addr × Str × Int) => ∃ as, Reads s.heap v (adD b.2) as) its L
  | [], _, .nil, _ => ⟨.nil, .nil⟩
  | p :: L, _, .cons r t, h => by
    obtain ⟨h1, h2⟩ := sort_each I t fun q hq => h q (List.mem_cons_of_mem _ hq)
    cases r
    refine ⟨.cons rfl h1, .cons ?_ h2⟩
    exact Dp.reads I (adD p.2) (.ref p.1) _ (.tup (h p List.mem_cons_self) (.cons (.str _) (.cons (.int _) .nil))) rfl
theorem each_refs : ∀ {out : List Value} {L : List (Addr × Str × Int)}, PySem.W.EachIs (fun v (b : Addr × Str × Int) => v = .ref b.1) out L → Vals (L.map fun p => V.ref p.1) out
  | _, _, .nil => .nil
  | _, _, .cons r t => .cons r (each_refs t)
theorem cr_sortA (hu : X.A.units + 64 < cLine) : CallR X (.builtin "sorted") (rSortA X.K) := by
  intro pins s σ H vs us Q I r h
  obtain ⟨a, L, rfl, hs, ht, hlen, ho, q⟩ := h
  obtain ⟨its, rv, hl, hz⟩ := I.list hs
  rw [Vals.ref1 r]
  obtain ⟨e1, e2⟩ := sort_each I rv ht
  have hso : L.mergeSort (PySem.W.dataLe false fun p : Addr × Str × Int => adD p.2) = L := by
    refine List.mergeSort_of_pairwise ?_
    refine (List.pairwise_map.mp ho).imp fun {p q} h => ?_
    obtain ⟨p1, p2, p3⟩ := p
    obtain ⟨q1, q2, q3⟩ := q
    obtain ⟨h1, h2⟩ := h
    have h1 : p2 = q2 := h1
    subst h1
    exact adD_le p2 p3 q3 h2 p1 q1
  refine PySem.W.sorted_data (enc := fun p : Addr × Str × Int => adD p.2) hl.isList e1 e2 (PySem.W.AllAlike.of fun b b' => by simp [adD, PySem.W.alike, PySem.W.alikeAll]) (PySem.W.Sortable.tuples fun b => ⟨_, _, rfl⟩) (Nat.le_trans hlen (by decide)) (fun b _ => ?_) fun out ho2 he => ?_
  · have : (adD b.2).depth = 1 := by simp [adD, PyData.depth, PyData.depthAll]
    rw [this]
    omega
  · rw [hso] at he
    obtain ⟨ep, he'⟩ := PyProof.Rows.sortedAll_at s.heap its out.toArray
    have hl2 : (L.map fun p => V.ref p.1).length ≤ sizeLine := by rw [List.length_map]; exact Nat.le_trans hlen (by decide)
    exact ⟨.ref _, upd H (s.heap.objs.size + 1) (.lst (L.map fun p => V.ref p.1)), I.laid (t' := s.toks) (fun _ _ => PyProof.Rows.sortedAll_old) (Nat.le_succ _) ⟨hl2, out, ep, each_refs he, he'⟩, rfl, q _ (I.hok.fresh (Nat.le_succ _))⟩
end

/-! ### C.m(), m a static method -/
structure StM (K : PySem.W.Frag) (C : Addr) (mc : Value) (m : Str) (p g : Addr) : Prop where
  rd : PySem.W.readsIn K C mc = true
  ga : PySem.W.specialIn K (.ref C) "__getattribute__" = some (some (.builtin "type.__getattribute__"))
  at_ : PySem.W.findCls K (.ref C) mc m = some (.get (.builtin "staticmethod.__get__") (.ref p) .none (.ref C))
  rc : ∃ rest, PySem.W.recIn K p "staticmethod" = some (.ref g :: rest)
  kp : PySem.W.keepIn K (.ref g) = true
def tStM (C : Addr) (sp : Sp) (E : XK) (ta : TE) : TE := fun σ H Q => ta σ H fun x H1 => x = .ref C ∧ sp [] H1 Q E
theorem pe_smeth0 {X : Cx} {CX : CXT} {k : Nat} {C p g : Addr} {mc : Value} {fd : FuncData} {sp : Sp} {E : XK} {o : Expr} {m : Str} {pos apos : Pos} {ta : TE} {pl : Sem Bool} (he : PE X o ta) (c : StM X.K C mc m p g) (F : FnOk X.prog X.w X.K X.mg X.base CX k g fd [] sp)
    (hr : Room k X.A) (hb : Binds X.K fd [] []) (hx : Passes CX X E)
    (ht : eval (.Call (.Attribute o m apos) [] [] pos) X.env = (do
      let ov ← eval o X.env
      standAt apos.atName
      let (f, first) ← holding [ov] (getMethod ov m pl)
      callWith pos f first (backTo pos (starEach [] X.env)) (backToKw pos (keywordEach [] X.env))) := by rfl) :
    PE X (.Call (.Attribute o m apos) [] [] pos) (tStM C sp E ta) := by
  refine ⟨fun pins s σ H Q I h => ?_⟩
  refine PySem.W.methodCall_KW (pl := pl) (thn (he.run pins s σ H _ I h) fun u s1 ⟨x, H1, I1, rx, ex, q⟩ => ?_) ht
  subst ex
  obtain rfl : u = Value.ref C := rx
  obtain ⟨rest, hp⟩ := c.rc
  refine PySem.W.method_cls I1.kIn c.ga (PySem.W.cls_bind I1.kIn c.rd c.at_ (wpAny_call (PySem.W.sm_get (s := { s1 with toks := s1.toks + 1 }) I1.kIn hp (PySem.W.handed_on rfl ?_))))
  have I2 := I1.tok (s1.toks + 1)
  exact PySem.W.callWith_K0 (first := []) I2.kIn c.kp (run_fn (us := []) (vs := []) F hr hb .nil hx I2 .nil q)
end QD

set_option Elab.async false
set_option linter.all false
set_option maxRecDepth 100000
set_option maxHeartbeats 4000000
/-! The mirror: two ends with one door each; plain Lean. -/
namespace QD
open PySem

inductive Pl | x | y | h deriving DecidableEq, Repr
inductive Gv | one | each deriving DecidableEq, Repr
inductive Lt | any | house | door deriving DecidableEq, Repr
abbrev Ad := Pl × Nat
structure Sd where
  g : Gv
  l : Lt
  keys : List Ad
  sent : List (List Ad)
  adr : List Ad
  heard : Bool
deriving DecidableEq, Repr
def Sd.new (q : Gv × Lt) : Sd := ⟨q.1, q.2, [], [], [], false⟩
def Sd.key (s : Sd) (a : Ad) : Ad := match s.g with | .each => a | .one => (.h, 0)
def Sd.grow (s : Sd) (k : Ad) : Sd := if k ∈ s.keys then s else { s with keys := s.keys ++ [k], sent := s.sent ++ [[]] }
def Sd.mark (s : Sd) (n : Nat) (row : List Ad) (a : Ad) : Sd := if a ∈ row then s else { s with sent := s.sent.set n (row ++ [a]) }
/-- send; none where a list is out of bounds or too long -/
def Sd.send (s : Sd) (a : Ad) : Option (Sd × Nat) :=
  match (s.grow (s.key a)).sent[(s.grow (s.key a)).keys.idxOf (s.key a)]? with
  | none => none
  | some row => if s.keys.length < 900 ∧ s.sent.length < 900 ∧ row.length < 900 then
      some ((s.grow (s.key a)).mark ((s.grow (s.key a)).keys.idxOf (s.key a)) row a, (s.grow (s.key a)).keys.idxOf (s.key a)) else none
def Sd.lets (s : Sd) (row : List Ad) (a : Ad) : Bool := match s.l with
  | .any => true
  | .house => row.any fun b => decide (b.1 = a.1)
  | .door => decide (a ∈ row)
def Sd.came (s : Sd) (n : Nat) (a : Ad) : Option Bool :=
  if n < s.keys.length then match s.sent[n]? with
    | none => none
    | some row => if row.length < 900 then some (s.lets row a) else none
  else some false
def Sd.learn (s : Sd) (a : Ad) : Option (Sd × Bool) := if s.adr.length < 900 then (if a ∈ s.adr then some (s, false) else some ({ s with adr := s.adr ++ [a] }, true)) else none
structure Mt where
  x : Sd
  y : Sd
  n : Nat
  stuck : Bool
deriving DecidableEq, Repr
def Mt.new (q r : Gv × Lt) : Option Mt :=
  match (Sd.new q).send (.h, 0) with
  | none => none
  | some (sx, nx) => match (Sd.new r).send (.h, 0) with
    | none => none
    | some (sy, ny) => match sx.learn (.y, ny) with
      | none => none
      | some (sx', _) => match sy.learn (.x, nx) with
        | none => none
        | some (sy', _) => some ⟨sx', sy', 0, false⟩
def Mt.over (m : Mt) : Bool := m.stuck || (m.x.heard && m.y.heard)
def sendAll (p : Pl) (s : Sd) : List Ad → Option (Sd × List (Ad × Ad))
  | [] => some (s, [])
  | a :: r => match s.send a with
    | none => none
    | some (s1, n) => match sendAll p s1 r with
      | none => none
      | some (s2, l) => some (s2, ((p, n), a) :: l)
def Mt.side (m : Mt) : Pl → Sd | .x => m.x | _ => m.y
def Mt.put (m : Mt) (p : Pl) (s : Sd) : Mt := match p with | .x => { m with x := s } | _ => { m with y := s }
/-- a letter comes: what is found, whether an address is new -/
def Mt.recv1 (m : Mt) (o a : Ad) : Option (Mt × Bool × Bool) :=
  if a.1 = .h then none else match (m.side a.1).came a.2 o with
    | none => none
    | some false => some (m, false, false)
    | some true => match ({ m.side a.1 with heard := true } : Sd).learn o with
      | none => none
      | some (s, b) => some (m.put a.1 s, true, b)
def recv (m : Mt) (new : Bool) : List (Ad × Ad) → Option (Mt × Bool)
  | [] => some (m, new)
  | (o, a) :: r => match m.recv1 o a with
    | none => none
    | some (m1, _, b) => recv m1 (new || b) r
def ordA : List Ad → Bool
  | [] => true
  | a :: r => r.all (fun b => decide (a.1 = b.1) && decide (a.2 ≤ b.2)) && ordA r
def Mt.round (m : Mt) : Option Mt :=
  if ordA m.x.adr && ordA m.y.adr && decide (m.x.adr.length < 400) && decide (m.y.adr.length < 400) && decide (m.n < 900) then
    match sendAll .x m.x m.x.adr with
    | none => none
    | some (sx, lx) => match sendAll .y m.y m.y.adr with
      | none => none
      | some (sy, ly) => match recv { m with x := sx, y := sy } false (lx ++ ly) with
        | none => none
        | some (m1, nw) => some { m1 with n := m.n + 1, stuck := !nw }
  else none
def play : Nat → Mt → Option Mt
  | 0, m => if m.over then some m else none
  | k + 1, m => if m.over then some m else match m.round with
    | none => none
    | some m1 => play k m1
def full (q r : Gv × Lt) : Option Mt := match Mt.new q r with
  | none => none
  | some m => play 5 m
def meetsM (q r : Gv × Lt) : Option Bool := (full q r).map fun m => m.x.heard && m.y.heard
def due1 (a b : Gv × Lt) : Bool := decide (a = (.one, .any)) || (decide (a.1 = .one) && decide (b.1 = .one)) || (decide (a = (.one, .house)) && decide (b.1 = .each)) || (decide (a = (.each, .any)) && decide (b.1 = .each) && !decide (b.2 = .door))
def due (a b : Gv × Lt) : Bool := due1 a b || due1 b a
def gvs : List Gv := [.one, .each]
def lts : List Lt := [.any, .house, .door]
def six : List (Gv × Lt) := gvs.flatMap fun g => lts.map fun l => (g, l)
theorem table : ∀ q : Gv × Lt, ∀ r : Gv × Lt, meetsM q r = some (due q r) := by
  rintro ⟨g, l⟩ ⟨g', l'⟩
  cases g <;> cases l <;> cases g' <;> cases l' <;> decide +kernel
theorem four : (six.filter fun q => due q q).length = 4 := by decide +kernel
theorem full_some (q r : Gv × Lt) : ∃ m, full q r = some m ∧ (m.x.heard && m.y.heard) = due q r := by
  have h := table q r
  unfold meetsM at h
  exact Option.map_eq_some_iff.mp h
end QD

set_option Elab.async false
set_option linter.all false
set_option maxRecDepth 100000
set_option maxHeartbeats 4000000
/-! How the mirror's data lie in the abstract heap; what stays. -/
namespace QD
open PySem PySem.Spec PyProof.Rows L2

def Pl.s : Pl → Str | .x => "x" | .y => "y" | .h => "house"
def Gv.s : Gv → Str | .one => "one" | .each => "each"
def Lt.s : Lt → Str | .any => "any" | .house => "house" | .door => "door"
theorem Pl.s_inj : ∀ {p q : Pl}, p.s = q.s → p = q := by
  intro p q
  cases p <;> cases q <;> first | (intro _; rfl) | (intro h; exact absurd h (by decide +kernel))
theorem Gv.s_inj : ∀ {p q : Gv}, p.s = q.s → p = q := by
  intro p q
  cases p <;> cases q <;> first | (intro _; rfl) | (intro h; exact absurd h (by decide +kernel))
theorem Lt.s_inj : ∀ {p q : Lt}, p.s = q.s → p = q := by
  intro p q
  cases p <;> cases q <;> first | (intro _; rfl) | (intro h; exact absurd h (by decide +kernel))

/-! ### attributes -/
def fD (g : Gv) (l : Lt) : List (Str × V) := [("kept_gives", .str g.s), ("kept_lets", .str l.s)]
def fE (t : Addr) : List (Str × V) := [("kept_doors", .ref t)]
def fP (d il kd sl : Addr) : List (Str × V) := [("door", .ref d), ("inner_of", .ref il), ("by_key", .ref kd), ("sent_to", .ref sl)]
def fS (p : Pl) (pst al : Addr) (h : Bool) : List (Str × V) := [("place", .str p.s), ("passages", .ref pst), ("addresses", .ref al), ("has_heard", .bl h)]
def fM (sd ro : Addr) (b : Bool) : List (Str × V) := [("sides", .ref sd), ("own_rounds", .ref ro), ("is_stuck", .bl b)]

/-! ### what never changes, what is kept -/
def Pur : HO → Prop
  | .tup _ => True
  | .frz _ _ => True
  | .own _ => True
  | .ins _ _ fs => (fs.lookup ("kept_lets" : Str)).isSome = true ∨ (fs.lookup ("kept_doors" : Str)).isSome = true ∨ (fs.lookup ("sent_to" : Str)).isSome = true
  | _ => False
theorem pur_D {C dx : Addr} {g : Gv} {l : Lt} : Pur (.ins C dx (fD g l)) := .inl (by kernel_rfl)
theorem pur_E {C dx t : Addr} : Pur (.ins C dx (fE t)) := .inr (.inl (by kernel_rfl))
theorem pur_P {C dx d il kd sl : Addr} : Pur (.ins C dx (fP d il kd sl)) := .inr (.inr (by kernel_rfl))
structure Keep (F : List Addr) (H H' : Hp) : Prop where
  old : ∀ b o, H b = some o → (b ∉ F ∨ Pur o) → H' b = some o
  dom : ∀ b, H' b = none → H b = none
def Grow (F F' : List Addr) (H : Hp) : Prop := ∀ b ∈ F', b ∈ F ∨ H b = none
section
variable {F F' F1 : List Addr} {H H' H1 : Hp} {a p x : Addr} {o u : HO}
theorem Keep.refl (F : List Addr) (H : Hp) : Keep F H H := ⟨fun _ _ e _ => e, fun _ e => e⟩
theorem Keep.trans (k1 : Keep F H H1) (k2 : Keep F' H1 H') (g : Grow F F' H) : Keep F H H' := by
  refine ⟨fun b o e h => k2.old b o (k1.old b o e h) ?_, fun b e => k1.dom b (k2.dom b e)⟩
  rcases h with h | h
  · refine .inl fun m => ?_
    rcases g b m with q | q
    · exact h q
    · rw [e] at q; cases q
  · exact .inr h
theorem Grow.refl : Grow F F H := fun _ h => .inl h
theorem Grow.nil : Grow F [] H := fun _ h => nomatch h
theorem Grow.trans (g1 : Grow F F1 H) (g2 : Grow F1 F' H1) (k : Keep F H H1) : Grow F F' H := fun b h => by
  rcases g2 b h with q | q
  · exact g1 b q
  · exact .inr (k.dom b q)
theorem Keep.tr (k1 : Keep F H H1) (k2 : Keep F H1 H') : Keep F H H' := k1.trans k2 Grow.refl
theorem Keep.tr0 (k1 : Keep F H H1) (k2 : Keep [] H1 H') : Keep F H H' := k1.trans k2 Grow.nil
theorem Keep.mono (k : Keep F H H') (h : ∀ b ∈ F, b ∈ F') : Keep F' H H' := ⟨fun b o e q => k.old b o e (q.imp (fun n m => n (h b m)) id), k.dom⟩
theorem Keep.of0 (k : Keep [] H H') : Keep F H H' := k.mono fun _ h => nomatch h
theorem Keep.new (hn : H p = none) (o : HO) : Keep F H (upd H p o) := by
  refine ⟨fun b u e _ => by rw [upd_ne (ne_of_none e hn)]; exact e, fun b e => ?_⟩
  by_cases h : b = p
  · subst h; exact hn
  · rw [upd_ne h] at e; exact e
theorem Keep.upd (hx : x ∈ F) (e : H x = some u) (np : ¬ Pur u) (o : HO) : Keep F H (L2.upd H x o) := by
  refine ⟨fun b v q h => ?_, fun b q => ?_⟩
  · have hb : b ≠ x := by
      rintro rfl
      rw [e] at q; cases q
      rcases h with h | h
      · exact h hx
      · exact np h
    rw [upd_ne hb]; exact q
  · by_cases h : b = x
    · subst h; rw [upd_same] at q; cases q
    · rw [upd_ne h] at q; exact q
theorem Keep.same (k : Keep [] H H') : Same H H' := fun b o e => k.old b o e (.inl fun h => nomatch h)
theorem Keep.ofSame (s : Same H H') : Keep [] H H' := ⟨fun b o e _ => s b o e, fun _ e => s.free e⟩
theorem Keep.made {C dx : Addr} (nx : H x = none) (nd : H dx = none) (ne : dx ≠ x) : Keep F H (L2.upd (L2.upd H dx (.own x)) x (.ins C dx [])) := by
  refine (Keep.new nd _).tr (Keep.new ?_ _)
  rw [upd_ne ne.symm]; exact nx
theorem Keep.sqt {K : PySem.W.Frag} {xs : List V} (k : Keep F H H') (h : SqT K H a xs) : SqT K H' a xs := by
  rcases h with (h | ⟨o, h⟩) | h
  · exact .inl (.inl (k.old _ _ h (.inr True.intro)))
  · exact .inl (.inr ⟨o, k.old _ _ h (.inr True.intro)⟩)
  · exact .inr h
theorem Keep.keyTup {K : PySem.W.Frag} {q : NestedKey} (k : Keep F H H') (h : KeyTup K H q a) : KeyTup K H' q a := by
  obtain ⟨i, x, j, t, e, h1, h2⟩ := h
  exact ⟨i, x, j, t, e, k.sqt h1, k.sqt h2⟩
end

/-! ### the data -/
structure Cs where
  door : Addr
  end_ : Addr
  pas : Addr
  side : Addr
  meet : Addr
structure Gx where
  P : Program
  w : World
  K : PySem.W.Frag
  c : Cs
def nk (a : Ad) : NestedKey := .tup [.num 0, .tup [.text a.1.s, .num (a.2 : Int)]]
theorem nk_inj {a b : Ad} (h : nk a = nk b) : a = b := by
  obtain ⟨p, i⟩ := a
  obtain ⟨q, j⟩ := b
  unfold nk at h
  simp only [NestedKey.tup.injEq, List.cons.injEq, NestedKey.text.injEq, NestedKey.num.injEq, and_true, true_and] at h
  obtain ⟨h1, h2⟩ := h
  have h1 := Pl.s_inj h1
  have h2 : i = j := by omega
  rw [h1, h2]
def AdAt (K : PySem.W.Frag) (H : Hp) (t : Addr) (a : Ad) : Prop := SqT K H t [.str a.1.s, .int (a.2 : Int)]
def AdL (K : PySem.W.Frag) (H : Hp) (l : Addr) (as : List Ad) : Prop := ∃ ts : List Addr, H l = some (.lst (ts.map V.ref)) ∧ Paired (AdAt K H) ts as
def DoorAt (G : Gx) (H : Hp) (d : Addr) (q : Gv × Lt) : Prop := ∃ dd, H d = some (.ins G.c.door dd (fD q.1 q.2))
def EndAt (G : Gx) (H : Hp) (e : Addr) (q : Gv × Lt) : Prop := ∃ de t d, H e = some (.ins G.c.end_ de (fE t)) ∧ SqT G.K H t [.ref d] ∧ DoorAt G H d q
/-- a Passage at p, its own changing objects F -/
def PsAt (G : Gx) (H : Hp) (p : Addr) (m : Sd) (F : List Addr) : Prop := ∃ (dxp d dd il kd sl : Addr) (ls : List Addr) (L : List NE),
  F = il :: kd :: sl :: ls ∧ F.Nodup ∧ H p = some (.ins G.c.pas dxp (fP d il kd sl)) ∧ H d = some (.ins G.c.door dd (fD m.g m.l)) ∧
  H il = some (.lst (List.replicate m.keys.length (.int 0))) ∧ H kd = some (NdO G.P G.w kd L) ∧ L.map (·.1) = m.keys.map nk ∧ L.map (·.2.2) = (List.range m.keys.length).map (fun i : Nat => V.int (i : Int)) ∧
  (∀ q ∈ L, KeyTup G.K H q.1 q.2.1) ∧ H sl = some (.lst (ls.map V.ref)) ∧ Paired (AdL G.K H) ls m.sent
def SdAt (G : Gx) (H : Hp) (s : Addr) (pl : Pl) (m : Sd) (F : List Addr) : Prop := ∃ (dxs pst p al : Addr) (Fp : List Addr),
  F = s :: pst :: al :: Fp ∧ F.Nodup ∧ H s = some (.ins G.c.side dxs (fS pl pst al m.heard)) ∧ H pst = some (.lst [.ref p]) ∧ AdL G.K H al m.adr ∧ PsAt G H p m Fp
def MtAt (G : Gx) (H : Hp) (t : Addr) (M : Mt) (F : List Addr) : Prop := ∃ (dx sd ro sx sy : Addr) (rs : List V) (Fx Fy : List Addr),
  F = t :: sd :: ro :: (Fx ++ Fy) ∧ F.Nodup ∧ H t = some (.ins G.c.meet dx (fM sd ro M.stuck)) ∧ H sd = some (.dK [(.inr "x", .ref sx), (.inr "y", .ref sy)]) ∧ H ro = some (.lst rs) ∧ rs.length = M.n ∧
  SdAt G H sx .x M.x Fx ∧ SdAt G H sy .y M.y Fy

section
variable {G : Gx} {F Fk : List Addr} {H H' : Hp} {a p s : Addr} {m : Sd}
theorem Keep.adAt {t : Addr} {a : Ad} (k : Keep Fk H H') (h : AdAt G.K H t a) : AdAt G.K H' t a := k.sqt h
theorem Keep.adAts {K : PySem.W.Frag} (k : Keep Fk H H') : ∀ {ts : List Addr} {as : List Ad}, Paired (AdAt K H) ts as → Paired (AdAt K H') ts as
  | _, _, .nil => .nil
  | _, _, .cons r t => .cons (k.sqt r) (k.adAts t)
theorem Keep.adL {K : PySem.W.Frag} {l : Addr} {as : List Ad} (k : Keep Fk H H') (n : l ∉ Fk) (h : AdL K H l as) : AdL K H' l as := by
  obtain ⟨ts, h1, h2⟩ := h
  exact ⟨ts, k.old _ _ h1 (.inl n), k.adAts h2⟩
theorem Keep.adLs {K : PySem.W.Frag} (k : Keep Fk H H') : ∀ {ls : List Addr} {rs : List (List Ad)}, (∀ b ∈ ls, b ∉ Fk) → Paired (AdL K H) ls rs → Paired (AdL K H') ls rs
  | _, _, _, .nil => .nil
  | _, _, n, .cons r t => .cons (k.adL (n _ List.mem_cons_self) r) (k.adLs (fun b hb => n b (List.mem_cons_of_mem _ hb)) t)
theorem Keep.door {q : Gv × Lt} {d : Addr} (k : Keep Fk H H') (h : DoorAt G H d q) : DoorAt G H' d q := by
  obtain ⟨dd, h⟩ := h
  exact ⟨dd, k.old _ _ h (.inr pur_D)⟩
theorem Keep.endAt {q : Gv × Lt} {e : Addr} (k : Keep Fk H H') (h : EndAt G H e q) : EndAt G H' e q := by
  obtain ⟨de, t, d, h1, h2, h3⟩ := h
  exact ⟨de, t, d, k.old _ _ h1 (.inr pur_E), k.sqt h2, k.door h3⟩
theorem Keep.ps (k : Keep Fk H H') (n : ∀ b ∈ F, b ∉ Fk) (h : PsAt G H p m F) : PsAt G H' p m F := by
  obtain ⟨dxp, d, dd, il, kd, sl, ls, L, e, nd, h1, h2, h3, h4, h5, h6, h7, h8, h9⟩ := h
  subst e
  refine ⟨dxp, d, dd, il, kd, sl, ls, L, rfl, nd, k.old _ _ h1 (.inr pur_P), k.old _ _ h2 (.inr pur_D), k.old _ _ h3 (.inl (n _ ?_)), k.old _ _ h4 (.inl (n _ ?_)), h5, h6, fun q hq => k.keyTup (h7 q hq), k.old _ _ h8 (.inl (n _ ?_)), k.adLs (fun b hb => n b ?_) h9⟩ <;> simp_all
theorem Keep.sd {pl : Pl} (k : Keep Fk H H') (n : ∀ b ∈ F, b ∉ Fk) (h : SdAt G H s pl m F) : SdAt G H' s pl m F := by
  obtain ⟨dxs, pst, p, al, Fp, e, nd, h1, h2, h3, h4⟩ := h
  subst e
  refine ⟨dxs, pst, p, al, Fp, rfl, nd, k.old _ _ h1 (.inl (n _ ?_)), k.old _ _ h2 (.inl (n _ ?_)), k.adL (n _ ?_) h3, k.ps (fun b hb => n b ?_) h4⟩ <;> simp_all
theorem Keep.mt {M : Mt} {t : Addr} (k : Keep Fk H H') (n : ∀ b ∈ F, b ∉ Fk) (h : MtAt G H t M F) : MtAt G H' t M F := by
  obtain ⟨dx, sd, ro, sx, sy, rs, Fx, Fy, e, nd, h1, h2, h3, h4, h5, h6⟩ := h
  subst e
  refine ⟨dx, sd, ro, sx, sy, rs, Fx, Fy, rfl, nd, k.old _ _ h1 (.inl (n _ ?_)), k.old _ _ h2 (.inl (n _ ?_)), k.old _ _ h3 (.inl (n _ ?_)), h4, k.sd (fun b hb => n b ?_) h5, k.sd (fun b hb => n b ?_) h6⟩ <;> simp_all
theorem adL_some {K : PySem.W.Frag} : ∀ {ls : List Addr} {rs : List (List Ad)}, Paired (AdL K H) ls rs → ∀ b ∈ ls, ∃ xs, H b = some (.lst xs)
  | _, _, .nil, b, hb => nomatch hb
  | _, _, .cons r t, b, hb => by
    rcases List.mem_cons.mp hb with e | hb
    · subst e
      obtain ⟨ts, h, _⟩ := r
      exact ⟨_, h⟩
    · exact adL_some t b hb
/-- what a Passage owns stands, and may change -/
theorem PsAt.own (h : PsAt G H p m F) : ∀ b ∈ F, ∃ o, H b = some o ∧ ¬ Pur o := by
  obtain ⟨dxp, d, dd, il, kd, sl, ls, L, e, nd, h1, h2, h3, h4, h5, h6, h7, h8, h9⟩ := h
  subst e
  intro b hb
  simp only [List.mem_cons] at hb
  rcases hb with rfl | rfl | rfl | hb
  · exact ⟨_, h3, id⟩
  · exact ⟨_, h4, id⟩
  · exact ⟨_, h8, id⟩
  · obtain ⟨xs, q⟩ := adL_some h9 b hb
    exact ⟨_, q, id⟩
theorem npur_S {C dx pst al : Addr} {pl : Pl} {b : Bool} : ¬ Pur (.ins C dx (fS pl pst al b)) := by
  have e1 : ((fS pl pst al b).lookup ("kept_lets" : Str)).isSome = false := by kernel_rfl
  have e2 : ((fS pl pst al b).lookup ("kept_doors" : Str)).isSome = false := by kernel_rfl
  have e3 : ((fS pl pst al b).lookup ("sent_to" : Str)).isSome = false := by kernel_rfl
  show ¬ (_ ∨ _ ∨ _)
  rw [e1, e2, e3]
  simp
theorem npur_M {C dx sd ro : Addr} {b : Bool} : ¬ Pur (.ins C dx (fM sd ro b)) := by
  have e1 : ((fM sd ro b).lookup ("kept_lets" : Str)).isSome = false := by kernel_rfl
  have e2 : ((fM sd ro b).lookup ("kept_doors" : Str)).isSome = false := by kernel_rfl
  have e3 : ((fM sd ro b).lookup ("sent_to" : Str)).isSome = false := by kernel_rfl
  show ¬ (_ ∨ _ ∨ _)
  rw [e1, e2, e3]
  simp
theorem SdAt.own {pl : Pl} (h : SdAt G H s pl m F) : ∀ b ∈ F, ∃ o, H b = some o ∧ ¬ Pur o := by
  obtain ⟨dxs, pst, p, al, Fp, e, nd, h1, h2, h3, h4⟩ := h
  subst e
  intro b hb
  simp only [List.mem_cons] at hb
  rcases hb with rfl | rfl | rfl | hb
  · exact ⟨_, h1, npur_S⟩
  · exact ⟨_, h2, id⟩
  · obtain ⟨ts, q, _⟩ := h3
    exact ⟨_, q, id⟩
  · exact h4.own b hb
theorem MtAt.own {M : Mt} {t : Addr} (h : MtAt G H t M F) : ∀ b ∈ F, ∃ o, H b = some o ∧ ¬ Pur o := by
  obtain ⟨dx, sd, ro, sx, sy, rs, Fx, Fy, e, nd, h1, h2, h3, h4, h5, h6⟩ := h
  subst e
  intro b hb
  simp only [List.mem_cons, List.mem_append] at hb
  rcases hb with rfl | rfl | rfl | hb | hb
  · exact ⟨_, h1, npur_M⟩
  · exact ⟨_, h2, id⟩
  · exact ⟨_, h3, id⟩
  · exact h5.own b hb
  · exact h6.own b hb
/-- a grown list of own objects meets no other one -/
theorem Grow.apart {F F' Fo : List Addr} (g : Grow F F' H) (d : ∀ b ∈ F, b ∉ Fo) (o : ∀ b ∈ Fo, ∃ u, H b = some u ∧ ¬ Pur u) : ∀ b ∈ F', b ∉ Fo := fun b hb m => by
  rcases g b hb with q | q
  · exact d b q m
  · obtain ⟨u, e, _⟩ := o b m
    rw [e] at q; cases q
theorem Paired.at_ {α β : Type} {R : α → β → Prop} : ∀ {xs : List α} {ys : List β} {i : Nat} {y : β}, Paired R xs ys → ys[i]? = some y → ∃ x, xs[i]? = some x ∧ R x y
  | _, _, i, y, .nil, e => by simp at e
  | _, _, 0, y, .cons r t, e => by simp at e; subst e; exact ⟨_, rfl, r⟩
  | _, _, i + 1, y, .cons r t, e => by
    obtain ⟨x, h1, h2⟩ := Paired.at_ (i := i) t (by simpa using e)
    exact ⟨x, by simpa using h1, h2⟩
theorem Paired.set_ {α β : Type} {R : α → β → Prop} {x : α} {y : β} : ∀ {xs : List α} {ys : List β} {i : Nat}, Paired R xs ys → xs[i]? = some x → R x y → Paired R xs (ys.set i y)
  | _, _, i, .nil, e, _ => by simp at e
  | _, _, 0, .cons r t, e, h => by
    have e := Option.some.inj (by simpa using e)
    subst e
    exact .cons h t
  | _, _, i + 1, .cons r t, e, h => .cons r (Paired.set_ (i := i) t (by simpa using e) h)
end
end QD

set_option Elab.async false
set_option linter.all false
set_option maxRecDepth 100000
set_option maxHeartbeats 4000000
/-! The text by places; what the walk asks of the classes as the top has made them. -/
namespace QD
open PySem PySem.Spec PyProof.Rows L2

def top (i : Nat) : Stmt := PySem.Challenge.pw_quietdoors_k59_whole_table_of_doors.main.body.getD i (.Pass ⟨0, 0, 0, 0⟩)
abbrev sIsFil : Stmt := top 9
abbrev sDoorI : Stmt := inClass (top 13) 0
abbrev sGives : Stmt := inClass (top 13) 1
abbrev sLets : Stmt := inClass (top 13) 2
abbrev sSix : Stmt := inClass (top 13) 4
abbrev sEndI : Stmt := inClass (top 14) 0
abbrev sDoors : Stmt := inClass (top 14) 1
abbrev sPasI : Stmt := inClass (top 18) 0
abbrev sPasSent : Stmt := inClass (top 18) 1
abbrev sPasCame : Stmt := inClass (top 18) 2
abbrev sSideI : Stmt := inClass (top 19) 0
abbrev sSideSent : Stmt := inClass (top 19) 1
abbrev sLetsIn : Stmt := inClass (top 19) 2
abbrev sLearns : Stmt := inClass (top 19) 3
abbrev sMeetI : Stmt := inClass (top 20) 0
abbrev sMside : Stmt := inClass (top 20) 1
abbrev sKnown : Stmt := inClass (top 20) 2
abbrev sHeard : Stmt := inClass (top 20) 3
abbrev sIsOver : Stmt := inClass (top 20) 4
abbrev sMlen : Stmt := inClass (top 20) 5
abbrev sRound : Stmt := inClass (top 20) 6
abbrev sPlayed : Stmt := top 21
abbrev sMeets : Stmt := top 22
abbrev sRounds : Stmt := top 23
abbrev sBegin : Stmt := top 25
abbrev sMixed : Stmt := top 26
abbrev sDraw : Stmt := top 27
abbrev sDue : Stmt := top 28
abbrev sLaw : Stmt := top 29

/-- a tuple of the written part -/
def TupK (K : PySem.W.Frag) (a : Addr) (xs : List V) : Prop := ∃ (o : Obj) (its : Array Value) (n : Nat), K.lookup a = some o ∧ o.cls = .type "tuple" ∧ o.data = .seq its n ∧ its.size ≤ sizeLine ∧ Vals xs its.toList
theorem TupK.sq {K : PySem.W.Frag} {H : Hp} {a : Addr} {xs : List V} (h : TupK K a xs) : SqT K H a xs := .inr h
structure Txt (K : PySem.W.Frag) (mg : Str → Option Value) (c : Cs) : Prop where
  clD : Cls K c.door
  clE : Cls K c.end_
  clP : Cls K c.pas
  clS : Cls K c.side
  clM : Cls K c.meet
  nD1 : NoAttr K c.door "kept_gives"
  nD2 : NoAttr K c.door "kept_lets"
  nE1 : NoAttr K c.end_ "kept_doors"
  nP1 : NoAttr K c.pas "door"
  nP2 : NoAttr K c.pas "inner_of"
  nP3 : NoAttr K c.pas "by_key"
  nP4 : NoAttr K c.pas "sent_to"
  nS1 : NoAttr K c.side "place"
  nS2 : NoAttr K c.side "passages"
  nS3 : NoAttr K c.side "addresses"
  nS4 : NoAttr K c.side "has_heard"
  nM1 : NoAttr K c.meet "sides"
  nM2 : NoAttr K c.meet "own_rounds"
  nM3 : NoAttr K c.meet "is_stuck"
  mgD : mg "Door" = some (.ref c.door)
  mgE : mg "End" = some (.ref c.end_)
  mgP : mg "Passage" = some (.ref c.pas)
  mgS : mg "Side" = some (.ref c.side)
  mgM : mg "Meeting" = some (.ref c.meet)
  icD : C8.InsC K c.door
  icE : C8.InsC K c.end_
  isinstance : mg "isinstance" = none
  len : mg "len" = none
  tuple : mg "tuple" = none
  sorted : mg "sorted" = none
  all : mg "all" = none
  range : mg "range" = none
  str : mg "str" = none
  int : mg "int" = none
  abs : mg "abs" = none
  maps : ∃ a, mg "MAPS" = some (.ref a) ∧ TupK K a [.str "one", .str "each"]
  filters : ∃ a, mg "FILTERS" = some (.ref a) ∧ TupK K a [.str "any", .str "house", .str "door"]
  places : ∃ a, mg "PLACES" = some (.ref a) ∧ TupK K a [.str "x", .str "y"]
  house : ∃ a, mg "HOUSE" = some (.ref a) ∧ TupK K a [.str "house", .int 0]
  most : ∃ t, mg "MOST_DOORS" = some (.int 3 t)

/-! ### attributes looked up -/
section
variable {g : Gv} {l : Lt} {p : Pl} {a b c d e f : Addr} {k : Bool}
theorem lD1 : (fD g l).lookup ("kept_gives" : Str) = some (.str g.s) := by kernel_rfl
theorem lD2 : (fD g l).lookup ("kept_lets" : Str) = some (.str l.s) := by kernel_rfl
theorem lE1 : (fE a).lookup ("kept_doors" : Str) = some (.ref a) := by kernel_rfl
theorem lP1 : (fP a b c d).lookup ("door" : Str) = some (.ref a) := by kernel_rfl
theorem lP2 : (fP a b c d).lookup ("inner_of" : Str) = some (.ref b) := by kernel_rfl
theorem lP3 : (fP a b c d).lookup ("by_key" : Str) = some (.ref c) := by kernel_rfl
theorem lP4 : (fP a b c d).lookup ("sent_to" : Str) = some (.ref d) := by kernel_rfl
theorem lS1 : (fS p a b k).lookup ("place" : Str) = some (.str p.s) := by kernel_rfl
theorem lS2 : (fS p a b k).lookup ("passages" : Str) = some (.ref a) := by kernel_rfl
theorem lS3 : (fS p a b k).lookup ("addresses" : Str) = some (.ref b) := by kernel_rfl
theorem lS4 : (fS p a b k).lookup ("has_heard" : Str) = some (.bl k) := by kernel_rfl
theorem lM1 : (fM a b k).lookup ("sides" : Str) = some (.ref a) := by kernel_rfl
theorem lM2 : (fM a b k).lookup ("own_rounds" : Str) = some (.ref b) := by kernel_rfl
theorem lM3 : (fM a b k).lookup ("is_stuck" : Str) = some (.bl k) := by kernel_rfl
end

/-! ### a property, by its promise -/
structure Prp (P : Program) (w : World) (K : PySem.W.Frag) (mg : Str → Option Value) (base : Heap) (k : Nat) (C : Addr) (f fld : Str) : Prop where
  ex : ∃ (p g : Addr) (fd : FuncData), Cls K C ∧ PropOf K C f p g ∧ FnOk P w K mg base C8.CX0 k g fd ["self"] (getSp C fld) ∧ Binds K fd ["self"] []
theorem pe_pr {X : Cx} {k j : Nat} {C : Addr} {f fld : Str} {e : Expr} {pos : Pos} {ta : TE} (c : Prp X.prog X.w X.K X.mg X.base k C f fld) (hr : Room j X.A) (hk : k + 1 ≤ j) (he : PE X e ta) (hab : attributeBase e f X.env (eval e X.env) = eval e X.env) :
    PE X (.Attribute e f pos) (tProp C (getSp C fld) [] C8.E0 ta) := by
  obtain ⟨p, g, fd, cl, hp, F, b⟩ := c.ex
  exact pe_prop he cl hp F (hr.mono hk) b .nil C8.pass0 hab
end QD

set_option Elab.async false
set_option linter.all false
set_option maxRecDepth 100000
set_option maxHeartbeats 4000000
/-! Passage.sent -/
namespace QD
open PySem PySem.Spec PyProof.Rows L2

/-! ### keys -/
theorem atN_none_of : ∀ {L : List NE} {k : NestedKey}, k ∉ L.map (·.1) → atN L k = none
  | [], _, _ => rfl
  | p :: L, k, h => by
    have h1 : ¬ p.1 = k := fun e => h (by rw [← e]; exact List.mem_cons_self)
    unfold atN
    rw [List.find?_cons, decide_eq_false h1]
    exact atN_none_of fun m => h (List.mem_cons_of_mem _ m)
theorem atN_idx : ∀ {L : List NE} {ks : List Ad} {a : Ad} {o : Nat}, L.map (·.1) = ks.map nk → L.map (·.2.2) = (List.range' o ks.length).map (fun i : Nat => V.int (i : Int)) → a ∈ ks →
    ∃ x y, atN L (nk a) = some (x, y, V.int ((o + ks.idxOf a : Nat) : Int))
  | L, [], a, o, _, _, h => nomatch h
  | [], k :: ks, a, o, h1, _, _ => by simp at h1
  | (p1, p2, p3) :: L, k :: ks, a, o, h1, h2, h => by
    simp only [List.map_cons, List.cons.injEq] at h1
    rw [List.length_cons, List.range'_succ] at h2
    simp only [List.map_cons, List.cons.injEq] at h2
    by_cases e : k = a
    · subst e
      refine ⟨p1, p2, ?_⟩
      unfold atN
      rw [List.find?_cons, decide_eq_true h1.1, h2.1, List.idxOf_cons_self] <;> rfl
    · have hm : a ∈ ks := (List.mem_cons.mp h).resolve_left fun q => e q.symm
      obtain ⟨x, y, q⟩ := atN_idx (o := o + 1) h1.2 h2.2 hm
      refine ⟨x, y, ?_⟩
      have e2 : (k == a) = false := beq_eq_false_iff_ne.mpr e
      have e3 : (k :: ks).idxOf a = ks.idxOf a + 1 := by rw [List.idxOf_cons, e2] <;> rfl
      have e4 : o + (k :: ks).idxOf a = o + 1 + ks.idxOf a := by omega
      rw [e4, ← q]
      unfold atN
      rw [List.find?_cons, decide_eq_false (show ¬ (p1, p2, p3).1 = nk a by rw [show (p1, p2, p3).1 = nk k from h1.1]; exact fun z => e (nk_inj z))]
theorem atN_idx0 {L : List NE} {ks : List Ad} {a : Ad} (h1 : L.map (·.1) = ks.map nk) (h2 : L.map (·.2.2) = (List.range ks.length).map (fun i : Nat => V.int (i : Int))) (h : a ∈ ks) :
    ∃ x y, atN L (nk a) = some (x, y, V.int (ks.idxOf a : Int)) := by
  have e := atN_idx (o := 0) h1 (by rw [h2, List.range_eq_range']) h
  rw [Nat.zero_add] at e
  exact e
theorem adLs_set {K : PySem.W.Frag} {H H' : Hp} {l : Addr} {row : List Ad} : ∀ {ls : List Addr} {rs : List (List Ad)} {n : Nat}, Paired (AdL K H) ls rs → ls.Nodup → ls[n]? = some l →
    (∀ b ∈ ls, b ≠ l → ∀ as, AdL K H b as → AdL K H' b as) → AdL K H' l row → Paired (AdL K H') ls (rs.set n row)
  | _, _, n, .nil, _, e, _, _ => by simp at e
  | b :: ls, _, 0, .cons r t, nd, e, k, h => by
    have e : b = l := Option.some.inj (by simpa using e)
    subst e
    obtain ⟨n1, n2⟩ := List.nodup_cons.mp nd
    refine .cons h ?_
    have go : ∀ {ls : List Addr} {rs : List (List Ad)}, Paired (AdL K H) ls rs → (∀ c ∈ ls, ∀ as, AdL K H c as → AdL K H' c as) → Paired (AdL K H') ls rs := by
      intro ls rs q
      induction q with
      | nil => intro _; exact .nil
      | cons r t ih => intro w; exact .cons (w _ List.mem_cons_self _ r) (ih fun c hc => w c (List.mem_cons_of_mem _ hc))
    exact go t fun c hc as q => k c (List.mem_cons_of_mem _ hc) (fun z => n1 (by rw [← z]; exact hc)) as q
  | b :: ls, _, n + 1, .cons r t, nd, e, k, h => by
    obtain ⟨n1, n2⟩ := List.nodup_cons.mp nd
    have e : ls[n]? = some l := by simpa using e
    refine .cons (k b List.mem_cons_self (fun z => n1 (by rw [z]; exact List.mem_of_getElem? e)) _ r) (adLs_set t n2 e (fun c hc => k c (List.mem_cons_of_mem _ hc)) h)
theorem ne_pur {H : Hp} {p b : Addr} {o u : HO} (h1 : H p = some o) (p1 : Pur o) (h2 : H b = some u) (p2 : ¬ Pur u) : p ≠ b := by
  rintro rfl
  rw [h1] at h2
  cases h2
  exact p2 p1
theorem nk_mem {ks : List Ad} {a : Ad} (h : nk a ∈ ks.map nk) : a ∈ ks := by
  obtain ⟨b, hb, e⟩ := List.mem_map.mp h
  rw [← nk_inj e]
  exact hb
theorem keyTup_of {K : PySem.W.Frag} {H : Hp} {k t : Addr} {a : Ad} (h1 : SqT K H k [.int 0, .ref t]) (h2 : AdAt K H t a) : KeyTup K H (nk a) k := ⟨0, a.1.s, a.2, t, rfl, h1, h2⟩

/-! ### equal addresses -/
def dA (a : Ad) : PyData := .tuple [.str a.1.s, .int (a.2 : Int)]
theorem dA_dp {K : PySem.W.Frag} {H : Hp} {t : Addr} {a : Ad} (h : AdAt K H t a) : Dp K H (.ref t) (dA a) := .tup h (.cons (.str _) (.cons (.int _) .nil))
theorem dAs_dp {K : PySem.W.Frag} {H : Hp} : ∀ {ts : List Addr} {as : List Ad}, Paired (AdAt K H) ts as → DpAll K H (ts.map V.ref) (as.map dA)
  | _, _, .nil => .nil
  | _, _, .cons r t => .cons (dA_dp r) (dAs_dp t)
theorem s_ok (p : Pl) : PyData.strOk p.s = true := by cases p <;> decide +kernel
theorem dA_sh (a : Ad) : SeqAt.shaped (dA a) = true := by simp [dA, SeqAt.shaped, PyData.canLay0, PyData.canLayAll0, PyData.depth, PyData.depthAll, s_ok]
theorem dAs_lay : ∀ as : List Ad, PyData.canLayAll0 (as.map dA) = true
  | [] => by simp [PyData.canLayAll0]
  | a :: as => by
    have h : (dA a).canLay0 = true := by simp [dA, PyData.canLay0, PyData.canLayAll0, s_ok]
    simp [PyData.canLayAll0, h, dAs_lay as]
theorem dAs_depth : ∀ as : List Ad, PyData.depthAll (as.map dA) ≤ 1
  | [] => by simp [PyData.depthAll]
  | a :: as => by
    have h1 := dAs_depth as
    have h2 : (dA a).depth = 1 := by simp [dA, PyData.depth, PyData.depthAll]
    simp only [List.map_cons, PyData.depthAll]
    omega
theorem dAs_sh (as : List Ad) : SeqAt.shaped (.list (as.map dA)) = true := by
  have h1 := dAs_depth as
  have h2 : PyData.depth (.list (as.map dA)) ≤ 64 := by
    simp only [PyData.depth]
    omega
  show (PyData.canLay0 (.list (as.map dA)) && decide (PyData.depth (.list (as.map dA)) ≤ 64)) = true
  rw [Bool.and_eq_true]
  exact ⟨by simp only [PyData.canLay0]; exact dAs_lay as, decide_eq_true h2⟩
theorem dA_eqv (a b : Ad) : PyData.eqv (dA a) (dA b) = decide (a = b) := by
  obtain ⟨p, i⟩ := a
  obtain ⟨q, j⟩ := b
  have e : PyData.eqv (dA (p, i)) (dA (q, j)) = ((p.s == q.s) && (((i : Int) == (j : Int)) && true)) := by simp only [dA, PyData.eqv, PyData.eqvAll]
  rw [e, Bool.eq_iff_iff]
  simp only [Bool.and_eq_true, beq_iff_eq, decide_eq_true_eq, Prod.mk.injEq, and_true]
  constructor
  · rintro ⟨h1, h2⟩
    exact ⟨Pl.s_inj h1, by omega⟩
  · rintro ⟨h1, h2⟩
    exact ⟨by rw [h1], by omega⟩
theorem any_dA (a : Ad) : ∀ as : List Ad, ((as.map dA).any fun z => PyData.eqv z (dA a)) = decide (a ∈ as)
  | [] => rfl
  | b :: as => by
    rw [List.map_cons, List.any_cons, any_dA a as, dA_eqv, Bool.eq_iff_iff]
    simp only [Bool.or_eq_true, decide_eq_true_eq, List.mem_cons]
    constructor
    · rintro (h | h)
      · exact .inl h.symm
      · exact .inr h
    · rintro (h | h)
      · exact .inl h.symm
      · exact .inr h

/-! ### a table of numbers grows; a row grows -/
section
variable {G : Gx} {H : Hp} {p : Addr} {m : Sd}
theorem replicate_snoc {α : Type} (n : Nat) (a : α) : List.replicate n a ++ [a] = List.replicate (n + 1) a := by
  rw [List.replicate_succ']
end

theorem u65 {A : Around} {k : Nat} (hr : Room k A) : A.units + 65 < cLine := by have := hr.un; omega
theorem gEach (g : Gv) : decide (V.str g.s = V.str ("each" : Str)) = decide (g = .each) := by cases g <;> decide +kernel
/-! ### the promise, the walk -/
def spSent (G : Gx) : Sp := fun vs H Q _ => ∃ (p t : Addr) (a : Ad) (m m' : Sd) (n : Nat) (F : List Addr), vs = [.ref p, .int 0, .ref t] ∧ PsAt G H p m F ∧ AdAt G.K H t a ∧ m.send a = some (m', n) ∧
  ∀ (H' : Hp) (F' : List Addr), Keep F H H' → Grow F F' H → PsAt G H' p m' F' → Q (.int (n : Int)) H'
theorem scSent : FnScope ["self", "inner", "address", "key", "number"] ["self", "inner", "address"] (C8.fnScope sPasSent) := C8.fnScope_by (by decide +kernel)
section
variable {G : Gx} {mg : Str → Option Value} {base : Heap}
theorem ok_sent {f : Addr} {fd : FuncData} (F : C8.Fun G.K "sent" "Passage.sent" sPasSent f fd) (T : Txt G.K mg G.c) (PG : Prp G.P G.w G.K mg base 1 G.c.door "gives" "kept_gives") :
    FnOk G.P G.w G.K mg base C8.CX0 3 f fd ["self", "inner", "address"] (spSent G) := by
  refine C8.fn0 F scSent (fun vs H Q E h => ?_) (fun cdv A outer s H vs Q E hr h => ?_)
  · obtain ⟨p, t, a, m, m', n, F, rfl, _⟩ := h
    rfl
  · obtain ⟨p, t, a, m, m', n, Fo, rfl, PA, ta, hs, k⟩ := h
    have hu := hr.units
    have hu5 := u65 hr
    refine ⟨_, C8.pss_cut (ps_set (i := 3) scSent.nd rfl (.inl rfl) (pe_ifExp (pt_cmpR op_eq (pe_pr PG hr (by decide) (pe_fld (pv 0) rfl) rfl) pe_str (nomark _))
          (pe_tup (pa_cons (pv 1) (pa_cons (pv 2) pa_nil))) (pe_tup (pa_cons (pv 1) (pa_cons (C8.pe_gc (v := .ref T.house.choose) rfl ⟨_, T.house.choose_spec.1, rfl⟩) pa_nil)))))
      (C8.pss_cut (ps_if (pt_cmpR (op_notInN hu) (pv 3) (pe_fld (pv 0) rfl) (by rfl))
          (pss_cons (ps_asg (pe_callB call_len_seq (by rfl) T.len PySem.boot_len (pa_cons (pe_fld (pv 0) rfl) pa_nil)) (pg_sub (pe_fld (pv 0) rfl) (pv 3) (set_N hu)))
          (pss_cons (ps_expr (pe_bm PySem.F.plainAttrs_list PySem.F.slot_list_append PySem.F.type_list_append mt_append (pe_fld (pv 0) rfl) (pa_cons (pv 1) pa_nil)))
          (pss_one (ps_expr (pe_bm PySem.F.plainAttrs_list PySem.F.slot_list_append PySem.F.type_list_append mt_append (pe_fld (pv 0) rfl) (pa_cons (pe_lst pa_nil) pa_nil)))))) pss_nil)
      (pss_cons (ps_set (i := 4) scSent.nd rfl (.inl rfl) (pe_ix (ix_N hu) (pe_fld (pv 0) rfl) (pv 3) (fun _ _ => rfl)))
      (C8.pss_cut (ps_if (pt_cmpR (op_notInD hu5) (pv 2) (pe_ix ix_list (pe_fld (pv 0) rfl) (pv 4) (fun _ _ => rfl)) (by rfl))
          (pss_one (ps_expr (pe_bm PySem.F.plainAttrs_list PySem.F.slot_list_append PySem.F.type_list_append mt_append (pe_ix ix_list (pe_fld (pv 0) rfl) (pv 4) (fun _ _ => rfl)) (pa_cons (pv 2) pa_nil)))) pss_nil)
      (pss_one (ps_ret (pv 4)))))), ?_⟩
    obtain ⟨dxp, d, dd, il, kd, sl, ls, L, eF, nd, h1, h2, h3, h4, h5, h6, h7, h8, h9⟩ := id PA
    -- key = (inner, address) if self.door.gives == "each" else (inner, HOUSE)
    refine ⟨fun σ' H' => ∃ (kt ta : Addr), σ' = [some (.ref p), some (.int 0), some (.ref t), some (.ref kt), none] ∧ AdAt G.K H' ta (m.key a) ∧ SqT G.K H' kt [.int 0, .ref ta] ∧ Keep [] H H', ?_, ?_⟩
    · refine ⟨_, rfl, p, G.c.pas, dxp, _, _, rfl, h1, T.clP, T.nP1, lP1, d, dd, _, rfl, h2, d, dd, _, _, rfl, h2, lD1, rfl, _, rfl, ?_⟩
      rw [gEach]
      refine ite2 (fun hg => ?_) (fun hg => ?_)
      · refine ⟨_, rfl, _, rfl, (by show 2 ≤ sizeLine; decide), fun kt hk => ?_⟩
        have hg : m.g = .each := of_decide_eq_true hg
        have ek : m.key a = a := by unfold Sd.key; rw [hg]
        have kp : Keep [] H (upd H kt (.tup [.int 0, .ref t])) := Keep.new hk _
        exact ⟨kt, t, rfl, by rw [ek]; exact kp.sqt ta, .of upd_same, kp⟩
      · refine ⟨_, rfl, (by show 2 ≤ sizeLine; decide), fun kt hk => ?_⟩
        have hg : ¬ m.g = .each := fun e => hg (decide_eq_true e)
        have ek : m.key a = (.h, 0) := by
          unfold Sd.key
          cases e : m.g with
          | one => rfl
          | each => exact absurd e hg
        have kp : Keep [] H (upd H kt (.tup [.int 0, .ref T.house.choose])) := Keep.new hk _
        exact ⟨kt, _, rfl, by rw [ek]; exact T.house.choose_spec.2.sq, .of upd_same, kp⟩
    rintro σ1 H1 ⟨kt, ta', rfl, kA, kT, kp1⟩
    have PA1 := kp1.ps (F := Fo) (fun _ _ z => nomatch z) PA
    have ta1 := kp1.adAt (G := G) ta
    clear h1 h2 h3 h4 h5 h6 h7 h8 h9 nd eF
    obtain ⟨dxp, d, dd, il, kd, sl, ls, L, eF, nd, h1, h2, h3, h4, h5, h6, h7, h8, h9⟩ := id PA1
    -- if key not in self.by_key
    refine ⟨fun σ' H' => σ' = [some (.ref p), some (.int 0), some (.ref t), some (.ref kt), none] ∧ ∃ F1, Keep Fo H H' ∧ Grow Fo F1 H ∧ PsAt G H' p (m.grow (m.key a)) F1 ∧
      AdAt G.K H' ta' (m.key a) ∧ SqT G.K H' kt [.int 0, .ref ta'] ∧ AdAt G.K H' t a, ?_, ?_⟩
    · refine ⟨_, rfl, _, rfl, p, G.c.pas, dxp, _, _, rfl, h1, T.clP, T.nP3, lP3, kd, kt, nk (m.key a), L, rfl, rfl, h4, keyTup_of kT kA, h7, _, rfl, ?_⟩
      by_cases hm : m.key a ∈ m.keys
      · obtain ⟨x, y, q⟩ := atN_idx0 h5 h6 hm
        rw [q]
        refine iteF ⟨rfl, _, kp1.of0, Grow.refl, ?_, kA, kT, ta1⟩
        have e : m.grow (m.key a) = m := by unfold Sd.grow; rw [if_pos hm]
        rw [e]
        exact PA1
      · have q : atN L (nk (m.key a)) = none := atN_none_of (by rw [h5]; exact fun z => hm (nk_mem z))
        rw [q]
        refine iteT ?_
        subst eF
        simp only [List.nodup_cons, List.mem_cons, not_or] at nd
        obtain ⟨⟨n1, n2, n3⟩, ⟨n4, n5⟩, n6, n7⟩ := nd
        have own := PA1.own
        have pi : p ≠ il := ne_pur h1 pur_P h3 id
        have pk : p ≠ kd := ne_pur h1 pur_P h4 id
        have psl : p ≠ sl := ne_pur h1 pur_P h8 id
        have hs' := hs
        unfold Sd.send at hs'
        obtain ⟨row, hrow, hsm⟩ : ∃ row, (m.grow (m.key a)).sent[(m.grow (m.key a)).keys.idxOf (m.key a)]? = some row ∧ m.keys.length < 900 ∧ m.sent.length < 900 ∧ row.length < 900 := by
          cases e : (m.grow (m.key a)).sent[(m.grow (m.key a)).keys.idxOf (m.key a)]? with
          | none => rw [e] at hs'; cases hs'
          | some row =>
            rw [e] at hs'
            refine ⟨row, rfl, ?_⟩
            by_cases q : m.keys.length < 900 ∧ m.sent.length < 900 ∧ row.length < 900
            · exact q
            · simp only [if_neg q] at hs'
              cases hs'
        have hL : L.length = m.keys.length := by
          have := congrArg List.length h5
          simpa using this
        have hlsl : ls.length = m.sent.length := h9.length
        have hil : (List.replicate m.keys.length (V.int 0)).length = m.keys.length := List.length_replicate
        -- self.by_key[key] = len(self.inner_of)
        refine ⟨_, rfl, p, G.c.pas, dxp, _, _, rfl, h1, T.clP, T.nP2, lP2, il, _, rfl, .inl (SqL.of h3), _, rfl, p, G.c.pas, dxp, _, _, rfl, h1, T.clP, T.nP3, lP3, _, rfl, kd, kt, nk (m.key a), L, rfl, rfl, h4, keyTup_of kT kA, h7, q, by omega, ?_⟩
        rw [hil]
        change tSeq _ _ _ _ (upd H1 kd (NdO G.P G.w kd (L ++ [(nk (m.key a), kt, V.int (m.keys.length : Int))])))
        -- self.inner_of.append(inner)
        generalize hH2 : upd H1 kd (NdO G.P G.w kd (L ++ [(nk (m.key a), kt, V.int (m.keys.length : Int))])) = H2
        have k2 : Keep (il :: kd :: sl :: ls) H1 H2 := by rw [← hH2]; exact Keep.upd (by simp) h4 id _
        have b1 : H2 p = some (.ins G.c.pas dxp (fP d il kd sl)) := k2.old _ _ h1 (.inr pur_P)
        have b3 : H2 il = some (.lst (List.replicate m.keys.length (.int 0))) := by rw [← hH2, upd_ne n1]; exact h3
        have b4 : H2 kd = some (NdO G.P G.w kd (L ++ [(nk (m.key a), kt, V.int (m.keys.length : Int))])) := by rw [← hH2]; exact upd_same
        have b8 : H2 sl = some (.lst (ls.map V.ref)) := by rw [← hH2, upd_ne (Ne.symm n4)]; exact h8
        refine ⟨_, rfl, p, G.c.pas, dxp, _, _, rfl, b1, T.clP, T.nP2, lP2, .inl ⟨rfl, _, SqL.of b3⟩, _, rfl, il, _, _, rfl, rfl, b3, small1000 (by omega), ?_⟩
        generalize hH3 : upd H2 il (HO.lst (List.replicate m.keys.length (V.int 0) ++ [V.int 0])) = H3
        have k3 : Keep (il :: kd :: sl :: ls) H2 H3 := by rw [← hH3]; exact Keep.upd (by simp) b3 id _
        have c1 : H3 p = some (.ins G.c.pas dxp (fP d il kd sl)) := k3.old _ _ b1 (.inr pur_P)
        have c8 : H3 sl = some (.lst (ls.map V.ref)) := by rw [← hH3, upd_ne (Ne.symm n2)]; exact b8
        -- self.sent_to.append([])
        refine ⟨_, rfl, p, G.c.pas, dxp, _, _, rfl, c1, T.clP, T.nP4, lP4, .inl ⟨rfl, _, SqL.of c8⟩, Nat.zero_le _, fun r hr0 => ?_⟩
        have rsl : sl ≠ r := ne_of_none c8 hr0
        have d8 : upd H3 r (HO.lst []) sl = some (.lst (ls.map V.ref)) := by rw [upd_ne rsl]; exact c8
        refine ⟨sl, _, _, rfl, rfl, d8, small1000 (by rw [List.length_map]; omega), ?_⟩
        generalize hH5 : upd (upd H3 r (HO.lst [])) sl (HO.lst (ls.map V.ref ++ [V.ref r])) = H5
        have k5 : Keep (il :: kd :: sl :: ls) H3 H5 := by
          rw [← hH5]
          exact (Keep.new hr0 _).tr (Keep.upd (by simp) d8 id _)
        have k15 : Keep (il :: kd :: sl :: ls) H1 H5 := (k2.tr k3).tr k5
        have rn : H1 r = none := (k2.tr k3).dom r hr0
        refine ⟨rfl, il :: kd :: sl :: (ls ++ [r]), kp1.of0.tr k15, ?_, ?_, k15.adAt (G := G) kA, k15.sqt kT, k15.adAt (G := G) ta1⟩
        · intro b hb
          simp only [List.mem_cons, List.mem_append, List.mem_singleton, List.not_mem_nil, or_false] at hb
          rcases hb with rfl | rfl | rfl | hb | rfl
          · exact .inl (by simp)
          · exact .inl (by simp)
          · exact .inl (by simp)
          · exact .inl (by simp [hb])
          · exact .inr (kp1.dom _ rn)
        · have e : m.grow (m.key a) = { m with keys := m.keys ++ [m.key a], sent := m.sent ++ [[]] } := by unfold Sd.grow; rw [if_neg hm]
          rw [e]
          have rne : ∀ b, (∃ o, H1 b = some o) → b ≠ r := fun b ⟨o, z⟩ => ne_of_none z rn
          have ril : il ≠ r := rne il ⟨_, h3⟩
          have rkd : kd ≠ r := rne kd ⟨_, h4⟩
          have rls : r ∉ ls := fun z => by
            obtain ⟨xs, q⟩ := adL_some h9 r z
            rw [rn] at q; cases q
          refine ⟨dxp, d, dd, il, kd, sl, ls ++ [r], L ++ [(nk (m.key a), kt, V.int (m.keys.length : Int))], rfl, ?_, k15.old _ _ h1 (.inr pur_P), k15.old _ _ h2 (.inr pur_D), ?_, ?_, ?_, ?_, ?_, ?_, ?_⟩
          · simp only [List.nodup_cons, List.mem_cons, not_or, List.mem_append, List.not_mem_nil, or_false, not_false_eq_true, List.nodup_append]
            refine ⟨⟨n1, n2, n3, ril⟩, ⟨n4, n5, rkd⟩, ⟨n6, rsl⟩, n7, by simp, ?_⟩
            intro x hx y hy
            subst hy
            rintro rfl
            exact rls hx
          · rw [← hH5, upd_ne n2, upd_ne ril, ← hH3, upd_same, List.length_append, List.length_singleton, ← replicate_snoc]
          · rw [← hH5, upd_ne n4, upd_ne rkd, ← hH3, upd_ne (Ne.symm n1)]
            exact b4
          · rw [List.map_append, List.map_append, h5] <;> rfl
          · rw [List.map_append, h6, List.length_append, List.length_singleton, List.range_succ, List.map_append] <;> rfl
          · intro x hx
            rcases List.mem_append.mp hx with hx | hx
            · exact k15.keyTup (h7 x hx)
            · simp only [List.mem_singleton] at hx
              subst hx
              exact k15.keyTup (keyTup_of kT kA)
          · rw [← hH5, upd_same, List.map_append] <;> rfl
          · refine Paired.snoc ?_ ⟨[], ?_, .nil⟩
            · have go : ∀ {ls' : List Addr} {rs : List (List Ad)}, (∀ b ∈ ls', b ∈ ls) → Paired (AdL G.K H1) ls' rs → Paired (AdL G.K H5) ls' rs := by
                intro ls' rs hsub q
                induction q with
                | nil => exact .nil
                | @cons x y xs ys r0 t ih =>
                  refine .cons ?_ (ih fun b hb => hsub b (List.mem_cons_of_mem _ hb))
                  obtain ⟨ts, z1, z2⟩ := r0
                  have hx := hsub x List.mem_cons_self
                  refine ⟨ts, ?_, k15.adAts z2⟩
                  have x1 : x ≠ sl := fun z => n6 (z ▸ hx)
                  have x2 : x ≠ r := fun z => rls (z ▸ hx)
                  have x3 : x ≠ il := fun z => n3 (z ▸ hx)
                  have x4 : x ≠ kd := fun z => n5 (z ▸ hx)
                  rw [← hH5, upd_ne x1, upd_ne x2, ← hH3, upd_ne x3, ← hH2, upd_ne x4]
                  exact z1
              exact go (fun _ h => h) h9
            · rw [← hH5, upd_ne (Ne.symm rsl), upd_same] <;> rfl
    · rintro σ2 H2 ⟨rfl, F1, kp2, g2, PA2, kA2, kT2, ta2⟩
      clear h1 h2 h3 h4 h5 h6 h7 h8 h9 nd eF
      obtain ⟨dxp, d, dd, il, kd, sl, ls, L, eF, nd, h1, h2, h3, h4, h5, h6, h7, h8, h9⟩ := id PA2
      have hm : m.key a ∈ (m.grow (m.key a)).keys := by
        unfold Sd.grow
        by_cases q : m.key a ∈ m.keys
        · rw [if_pos q]; exact q
        · rw [if_neg q]; simp
      obtain ⟨x, y, q⟩ := atN_idx0 h5 h6 hm
      -- number = self.by_key[key]
      refine ⟨_, rfl, p, G.c.pas, dxp, _, _, rfl, h1, T.clP, T.nP3, lP3, _, rfl, kd, kt, nk (m.key a), L, _, rfl, rfl, h4, keyTup_of kT2 kA2, h7, q, ?_⟩
      -- if address not in self.sent_to[number]: self.sent_to[number].append(address)
      have hs' := hs
      unfold Sd.send at hs'
      obtain ⟨row, hrow, hsm, em, en⟩ : ∃ row, (m.grow (m.key a)).sent[(m.grow (m.key a)).keys.idxOf (m.key a)]? = some row ∧ (m.keys.length < 900 ∧ m.sent.length < 900 ∧ row.length < 900) ∧
          (m.grow (m.key a)).mark ((m.grow (m.key a)).keys.idxOf (m.key a)) row a = m' ∧ (m.grow (m.key a)).keys.idxOf (m.key a) = n := by
        cases e : (m.grow (m.key a)).sent[(m.grow (m.key a)).keys.idxOf (m.key a)]? with
        | none => rw [e] at hs'; cases hs'
        | some row =>
          rw [e] at hs'
          by_cases q : m.keys.length < 900 ∧ m.sent.length < 900 ∧ row.length < 900
          · simp only [if_pos q, Option.some.injEq, Prod.mk.injEq] at hs'
            exact ⟨row, rfl, q, hs'.1, hs'.2⟩
          · simp only [if_neg q] at hs'
            cases hs'
      rw [en] at hrow em
      simp only [en]
      obtain ⟨l, hl, ts, hl1, hl2⟩ := Paired.at_ h9 hrow
      have hlr : (ls.map V.ref)[n]? = some (V.ref l) := by rw [List.getElem?_map, hl] <;> rfl
      refine ⟨fun σ' H' => σ' = [some (.ref p), some (.int 0), some (.ref t), some (.ref kt), some (.int (n : Int))] ∧ Keep Fo H H' ∧ PsAt G H' p m' F1, ?_, ?_⟩
      · refine ⟨_, rfl, _, rfl, p, G.c.pas, dxp, _, _, rfl, h1, T.clP, T.nP4, lP4, _, rfl, sl, _, _, _, rfl, rfl, SqL.of h8, atI_nat hlr, dA a, row.map dA, dA_dp ta2, .lst (SqL.of hl1) (dAs_dp hl2), dA_sh a, dAs_sh row, _, rfl, ?_⟩
        rw [any_dA]
        by_cases hin : a ∈ row
        · rw [decide_eq_true hin]
          refine iteF ⟨rfl, kp2, ?_⟩
          have e : (m.grow (m.key a)).mark n row a = m.grow (m.key a) := by unfold Sd.mark; rw [if_pos hin]
          rw [← em, e]
          exact PA2
        · rw [decide_eq_false hin]
          refine iteT ?_
          have hlen : ts.length = row.length := hl2.length
          refine ⟨_, rfl, p, G.c.pas, dxp, _, _, rfl, h1, T.clP, T.nP4, lP4, _, rfl, sl, _, _, _, rfl, rfl, SqL.of h8, atI_nat hlr, .inl ⟨rfl, _, SqL.of hl1⟩, _, rfl, l, _, _, rfl, rfl, hl1, small1000 (by rw [List.length_map]; omega), ?_⟩
          have hml : l ∈ ls := List.mem_of_getElem? hl
          have k3 : Keep F1 H2 (upd H2 l (HO.lst (ts.map V.ref ++ [V.ref t]))) := Keep.upd (by rw [eF]; simp [hml]) hl1 id _
          refine ⟨rfl, kp2.trans k3 g2, ?_⟩
          have e : (m.grow (m.key a)).mark n row a = { m.grow (m.key a) with sent := (m.grow (m.key a)).sent.set n (row ++ [a]) } := by unfold Sd.mark; rw [if_neg hin]
          rw [← em, e]
          subst eF
          have nd' := nd
          simp only [List.nodup_cons, List.mem_cons, not_or] at nd'
          obtain ⟨⟨n1, n2, n3⟩, ⟨n4, n5⟩, n6, n7⟩ := nd'
          have l1 : il ≠ l := fun z => n3 (z ▸ hml)
          have l2 : kd ≠ l := fun z => n5 (z ▸ hml)
          have l3 : sl ≠ l := fun z => n6 (z ▸ hml)
          refine ⟨dxp, d, dd, il, kd, sl, ls, L, rfl, nd, k3.old _ _ h1 (.inr pur_P), k3.old _ _ h2 (.inr pur_D), by rw [upd_ne l1]; exact h3, by rw [upd_ne l2]; exact h4, h5, h6, fun x hx => k3.keyTup (h7 x hx), by rw [upd_ne l3]; exact h8, ?_⟩
          refine adLs_set h9 n7 hl (fun b hb hne as q => ?_) ⟨ts ++ [t], by rw [upd_same, List.map_append] <;> rfl, Paired.snoc (k3.adAts hl2) (k3.adAt (G := G) ta2)⟩
          obtain ⟨us, z1, z2⟩ := q
          exact ⟨us, by rw [upd_ne hne]; exact z1, k3.adAts z2⟩
      · rintro σ3 H3 ⟨rfl, kp3, PA3⟩
        exact ⟨_, rfl, k H3 F1 kp3 g2 PA3⟩
end
end QD

set_option Elab.async false
set_option linter.all false
set_option maxRecDepth 100000
set_option maxHeartbeats 4000000
/-! Passage.came, Passage.__init__ -/
namespace QD
open PySem PySem.Spec PyProof.Rows L2

theorem Keep.updNew {F : List Addr} {H H1 : Hp} {x : Addr} (k : Keep F H H1) (hn : H x = none) (o : HO) : Keep F H (L2.upd H1 x o) := by
  refine ⟨fun b u e h => by rw [upd_ne (ne_of_none e hn)]; exact k.old b u e h, fun b e => ?_⟩
  by_cases h : b = x
  · subst h; exact hn
  · rw [upd_ne h] at e; exact k.dom b e
theorem PI_keep {F : List Addr} {H H1 : Hp} {p : Addr} {u : HO} (k : Keep (p :: F) H H1) (hp : H p = some u) (np : ¬ Pur u) (o : HO) : Keep (p :: F) H (upd H1 p o) := by
  refine ⟨fun b v e h => ?_, fun b e => ?_⟩
  · have hb : b ≠ p := by
      rintro rfl
      rw [hp] at e; cases e
      rcases h with h | h
      · exact h List.mem_cons_self
      · exact np h
    rw [upd_ne hb]
    exact k.old b v e h
  · by_cases h : b = p
    · subst h; rw [upd_same] at e; cases e
    · rw [upd_ne h] at e; exact k.dom b e
theorem lHouse (l : Lt) : decide (V.str l.s = V.str ("house" : Str)) = decide (l = .house) := by cases l <;> decide +kernel
theorem lDoor (l : Lt) : decide (V.str l.s = V.str ("door" : Str)) = decide (l = .door) := by cases l <;> decide +kernel
def plV (a : Ad) : V := .str a.1.s
theorem plV_flat : ∀ as : List Ad, (as.map plV).all flatV = true
  | [] => rfl
  | a :: as => by rw [List.map_cons, List.all_cons, plV_flat as] <;> rfl
theorem plV_in (a : Ad) : ∀ as : List Ad, inV (plV a) (as.map plV) = as.any fun b => decide (b.1 = a.1)
  | [] => rfl
  | b :: as => by
    have h := plV_in a as
    unfold inV at h ⊢
    rw [List.map_cons, List.any_cons, List.any_cons, h]
    congr 1
    show (b.1.s == a.1.s) = _
    rw [Bool.eq_iff_iff, beq_iff_eq, decide_eq_true_eq]
    exact ⟨Pl.s_inj, fun e => by rw [e]⟩
def spCame (G : Gx) : Sp := fun vs H Q _ => ∃ (p t : Addr) (a : Ad) (n : Nat) (m : Sd) (b : Bool) (F : List Addr), vs = [.ref p, .int (n : Int), .ref t] ∧ PsAt G H p m F ∧ AdAt G.K H t a ∧ m.came n a = some b ∧
  ∀ (H' : Hp), Keep [] H H' → Q (if b then .int 0 else .non) H'
theorem scCame : FnScope ["self", "number", "address", "others", "place", "other"] ["self", "number", "address"] (C8.fnScope sPasCame) := C8.fnScope_by (by decide +kernel)
section
variable {G : Gx} {mg : Str → Option Value} {base : Heap}
theorem ok_came {f : Addr} {fd : FuncData} (F : C8.Fun G.K "came" "Passage.came" sPasCame f fd) (T : Txt G.K mg G.c) (PG : Prp G.P G.w G.K mg base 1 G.c.door "lets" "kept_lets") :
    FnOk G.P G.w G.K mg base C8.CX0 3 f fd ["self", "number", "address"] (spCame G) := by
  refine C8.fn0 F scCame (fun vs H Q E h => ?_) (fun cdv A outer s H vs Q E hr h => ?_)
  · obtain ⟨p, t, a, n, m, b, F, rfl, _⟩ := h
    rfl
  · obtain ⟨p, t, a, n, m, b, Fo, rfl, PA, ta, hs, k⟩ := h
    have hu := hr.units
    have hu5 := u65 hr
    refine ⟨_, pss_cons (ps_if (pt_cmpR op_ge (pv 1) (pe_callB call_len_seq (by rfl) T.len PySem.boot_len (pa_cons (pe_fld (pv 0) rfl) pa_nil)) (nomark _)) (pss_one (ps_ret pe_non)) pss_nil)
      (pss_cons (ps_set (i := 3) scCame.nd rfl (.inl rfl) (pe_ix ix_list (pe_fld (pv 0) rfl) (pv 1) (fun _ _ => rfl)))
      (C8.pss_cut (ps_if (PW.pt (pw_and (pt_cmpR op_eq (pe_pr PG hr (by decide) (pe_fld (pv 0) rfl) rfl) pe_str (nomark _))
          (pw_and1 (pt_cmpR op_notIn_seq (pe_ix ix_tup (pv 2) pe_int (fun _ _ => rfl))
            (pe_lc (own := [("place", 4), ("other", 5)]) (g := gTup G.K 2 (gCons (gName 4) (gCons (gName 5) gNil))) (tt := tYes) rfl scCame.nd (pi_list (pv 3)) (blkOk_by (own := [("place", 4), ("other", 5)]) (N := ["self", "number", "address", "others", "place", "other"]) (sc := C8.fnScope sPasCame) (by decide +kernel))
              (fun _ _ _ _ _ => pg_tup rfl (pgs_cons (pg_name (i := 4) scCame.nd rfl (.inl rfl)) (pgs_cons (pg_name (i := 5) scCame.nd rfl (.inl rfl)) pgs_nil))) (fun _ _ _ _ _ => pts_nil) (fun _ _ _ _ _ => pv 4)) (by rfl)))))
          (pss_one (ps_ret pe_non)) pss_nil)
      (pss_cons (ps_if (PW.pt (pw_and (pt_cmpR op_eq (pe_pr PG hr (by decide) (pe_fld (pv 0) rfl) rfl) pe_str (nomark _))
          (pw_and1 (pt_cmpR (op_notInD hu5) (pv 2) (pv 3) (by rfl))))) (pss_one (ps_ret pe_non)) pss_nil)
      (pss_one (ps_ret (pe_ix ix_list (pe_fld (pv 0) rfl) (pv 1) (fun _ _ => rfl))))))), ?_⟩
    obtain ⟨dxp, d, dd, il, kd, sl, ls, L, eF, nd, h1, h2, h3, h4, h5, h6, h7, h8, h9⟩ := id PA
    -- if number >= len(self.inner_of): return None
    refine ⟨_, rfl, _, rfl, p, G.c.pas, dxp, _, _, rfl, h1, T.clP, T.nP2, lP2, il, _, rfl, .inl (SqL.of h3), _, _, rfl, rfl, _, rfl, ?_⟩
    rw [List.length_replicate]
    unfold Sd.came at hs
    refine ite2 (fun hq => ?_) (fun hq => ?_)
    · have hq : (m.keys.length : Int) ≤ (n : Int) := of_decide_eq_true hq
      rw [if_neg (by omega)] at hs
      cases hs
      exact k H (Keep.refl _ _)
    have hq : n < m.keys.length := by
      by_cases z : (m.keys.length : Int) ≤ (n : Int)
      · exact absurd (decide_eq_true z) hq
      · omega
    rw [if_pos hq] at hs
    obtain ⟨row, hrow, hlen, hb⟩ : ∃ row, m.sent[n]? = some row ∧ row.length < 900 ∧ m.lets row a = b := by
      cases e : m.sent[n]? with
      | none => rw [e] at hs; cases hs
      | some row =>
        rw [e] at hs
        by_cases q : row.length < 900
        · simp only [if_pos q, Option.some.injEq] at hs
          exact ⟨row, rfl, q, hs⟩
        · simp only [if_neg q] at hs
          cases hs
    obtain ⟨l, hl, ts, hl1, hl2⟩ := Paired.at_ h9 hrow
    have hlr : (ls.map V.ref)[n]? = some (V.ref l) := by rw [List.getElem?_map, hl] <;> rfl
    have htl : ts.length = row.length := hl2.length
    -- others = self.sent_to[number]
    refine ⟨_, rfl, p, G.c.pas, dxp, _, _, rfl, h1, T.clP, T.nP4, lP4, _, rfl, sl, _, _, _, rfl, rfl, SqL.of h8, atI_nat hlr, ?_⟩
    -- self.door.lets == "house" ..
    refine ⟨fun σ' H' => σ' = [some (.ref p), some (.int (n : Int)), some (.ref t), some (.ref l), none, none] ∧ Keep [] H H' ∧ (m.l = .house → b = true), ?_, ?_⟩
    · refine ⟨_, rfl, p, G.c.pas, dxp, _, _, rfl, h1, T.clP, T.nP1, lP1, d, dd, _, rfl, h2, d, dd, _, _, rfl, h2, lD2, rfl, _, rfl, ?_⟩
      rw [lHouse]
      refine ite2 (fun hq2 => ?_) (fun hq2 => ?_)
      · have hq2 : m.l = .house := of_decide_eq_true hq2
        refine ⟨_, rfl, t, _, _, _, rfl, rfl, ta, atI_nat (j := 0) rfl, _, rfl, l, rfl, ⟨_, SqL.of hl1⟩, fun D hD => ?_⟩
        refine lc_list (K := G.K) (a := l) (xs := ts.map V.ref) (fun i H' => Keep [] H H' ∧ H' D = some (.lst ((row.take i).map plV))) ⟨Keep.new hD _, upd_same⟩ (fun i H' _ ⟨kp, _⟩ => SqL.of (kp.old _ _ hl1 (.inl fun z => nomatch z))) ?_ ?_
        · rintro i x H' hx ⟨kp, hD'⟩
          obtain ⟨ti, hti, rfl⟩ : ∃ ti, ts[i]? = some ti ∧ x = V.ref ti := by
            rw [List.getElem?_map] at hx
            cases e : ts[i]? with
            | none => rw [e] at hx; cases hx
            | some ti => rw [e] at hx; exact ⟨ti, rfl, (Option.some.inj hx).symm⟩
          have hil : i < row.length := by rw [← htl]; exact (List.getElem?_eq_some_iff.mp hti).1
          obtain ⟨ti', hti', hA⟩ := Paired.at_ hl2 (List.getElem?_eq_getElem hil)
          rw [hti] at hti'
          cases hti'
          refine ⟨ti, _, rfl, kp.sqt hA, rfl, _, _, rfl, _, _, rfl, rfl, rfl, ?_⟩
          simp only [tYes, ↓reduceIte]
          refine ⟨_, rfl, _, hD', small1000 (by rw [List.length_map, List.length_take]; omega), ?_⟩
          refine ⟨kp.updNew hD _, ?_⟩
          · rw [upd_same, List.take_add_one, List.getElem?_eq_getElem hil, List.map_append] <;> rfl
        · rintro H' ⟨kp, hD'⟩
          rw [List.length_map, htl, List.take_of_length_le (Nat.le_refl _)] at hD'
          refine ⟨D, _, rfl, .inl (SqL.of hD'), rfl, plV_flat _, _, rfl, ?_⟩
          change (if (!inV (plV a) (row.map plV)) = true then _ else _)
          rw [plV_in]
          have hlt : m.lets row a = row.any fun b => decide (b.1 = a.1) := by unfold Sd.lets; rw [hq2]
          cases e : row.any fun b => decide (b.1 = a.1) with
          | true => exact iteF ⟨rfl, kp, fun _ => by rw [← hb, hlt, e]⟩
          | false =>
            refine iteT ?_
            have z := k H' kp
            rw [← hb, hlt, e] at z
            exact z
      · refine ⟨rfl, Keep.refl _ _, fun e => absurd (decide_eq_true e) hq2⟩
    · rintro σ1 H1 ⟨rfl, kp1, hb1⟩
      have g1 := kp1.old _ _ h1 (.inr pur_P)
      have g2 := kp1.old _ _ h2 (.inr pur_D)
      have g3 := kp1.old _ _ h3 (.inl fun z => nomatch z)
      have gl := kp1.old _ _ hl1 (.inl fun z => nomatch z)
      have ta1 := kp1.adAt (G := G) ta
      have tl1 := kp1.adAts hl2
      have fin : b = true → tRet (tOp (rIxL G.K) (tFld G.K (tVar 0) "inner_of") (tVar 1)) { nx := fun _ H' => Q V.non H', rt := Q } [some (.ref p), some (.int (n : Int)), some (.ref t), some (.ref l), none, none] H1 := fun e => by
        have z := k H1 kp1
        rw [e] at z
        refine ⟨_, rfl, p, G.c.pas, dxp, _, _, rfl, g1, T.clP, T.nP2, lP2, _, rfl, il, _, _, _, rfl, rfl, SqL.of g3, atI_nat (j := n) (v := V.int 0) (by rw [List.getElem?_replicate, if_pos hq]), z⟩
      refine ⟨_, rfl, p, G.c.pas, dxp, _, _, rfl, g1, T.clP, T.nP1, lP1, d, dd, _, rfl, g2, d, dd, _, _, rfl, g2, lD2, rfl, _, rfl, ?_⟩
      rw [lDoor]
      refine ite2 (fun hq2 => ?_) (fun hq2 => ?_)
      · have hq2 : m.l = .door := of_decide_eq_true hq2
        have hlt : m.lets row a = decide (a ∈ row) := by unfold Sd.lets; rw [hq2]
        refine ⟨_, rfl, _, rfl, dA a, row.map dA, dA_dp ta1, .lst (SqL.of gl) (dAs_dp tl1), dA_sh a, dAs_sh row, _, rfl, ?_⟩
        rw [any_dA]
        by_cases hin : a ∈ row
        · rw [decide_eq_true hin]
          exact iteF (fin (by rw [← hb, hlt, decide_eq_true hin]))
        · rw [decide_eq_false hin]
          refine iteT ?_
          have z := k H1 kp1
          rw [← hb, hlt, decide_eq_false hin] at z
          exact z
      · have hq2 : ¬ m.l = .door := fun e => hq2 (decide_eq_true e)
        refine iteF (fin ?_)
        cases e : m.l with
        | any => rw [← hb]; unfold Sd.lets; rw [e]
        | house => exact hb1 e
        | door => exact absurd e hq2

/-! ### Passage(door) -/
def spPasI (G : Gx) : Sp := fun vs H Q _ => ∃ (p dx d : Addr) (q : Gv × Lt), vs = [.ref p, .ref d] ∧ H p = some (.ins G.c.pas dx []) ∧ DoorAt G H d q ∧
  ∀ (H' : Hp) (F' : List Addr), Keep [p] H H' → (∀ b ∈ F', H b = none) → PsAt G H' p (Sd.new q) F' → Q .non H'
theorem scPasI : FnScope ["self", "door"] ["self", "door"] (C8.fnScope sPasI) := C8.fnScope_by (by decide +kernel)
theorem ok_pasI {f : Addr} {fd : FuncData} (F : C8.Fun G.K "__init__" "Passage.__init__" sPasI f fd) (T : Txt G.K mg G.c) :
    FnOk G.P G.w G.K mg base C8.CX0 1 f fd ["self", "door"] (spPasI G) := by
  refine C8.fn0 F scPasI (fun vs H Q E h => ?_) (fun cdv A outer s H vs Q E hr h => ?_)
  · obtain ⟨p, dx, d, q, rfl, _⟩ := h
    rfl
  · obtain ⟨p, dx, d, q, rfl, hp, ⟨dd, hd⟩, k⟩ := h
    refine ⟨_, pss_cons (ps_fld (pv 0) (pv 1) rfl) (pss_cons (ps_fld (pv 0) (pe_lst pa_nil) rfl) (pss_cons (ps_fld (tv := tNdNew G.P G.w) (pv 0) pe_ndnew rfl) (pss_one (ps_fld (pv 0) (pe_lst pa_nil) rfl)))), ?_⟩
    have npd : d ≠ p := by
      rintro rfl
      have e := Option.some.inj (hp.symm.trans hd)
      injection e with e1 e2 e3
      exact absurd e3 (by simp [fD])
    have np0 : ¬ Pur (HO.ins G.c.pas dx []) := by
      show ¬ (_ ∨ _ ∨ _)
      rintro (z | z | z) <;> cases z
    -- self.door = door
    refine ⟨_, rfl, _, rfl, p, G.c.pas, dx, [], rfl, hp, T.clP, T.nP1, (by show 0 < 1000; decide), ?_⟩
    generalize hH1 : upd H p (HO.ins G.c.pas dx (putF "door" (V.ref d) [])) = H1
    have k1 : Keep [p] H H1 := by rw [← hH1]; exact Keep.upd (by simp) hp np0 _
    have a1 : H1 p = some (HO.ins G.c.pas dx (putF "door" (V.ref d) [])) := by rw [← hH1]; exact upd_same
    -- self.inner_of = []
    refine ⟨Nat.zero_le _, fun il hil => ?_⟩
    have nil_ : p ≠ il := ne_of_none a1 hil
    refine ⟨_, rfl, p, G.c.pas, dx, _, rfl, (by rw [upd_ne nil_]; exact a1), T.clP, T.nP2, (by show 1 < 1000; decide), ?_⟩
    generalize hH2 : upd (upd H1 il (HO.lst [])) p (HO.ins G.c.pas dx (putF "inner_of" (V.ref il) (putF "door" (V.ref d) []))) = H2
    have k2 : Keep [p] H H2 := by rw [← hH2]; exact PI_keep (k1.updNew (k1.dom _ hil) _) hp np0 _
    have a2 : H2 p = some (HO.ins G.c.pas dx (putF "inner_of" (V.ref il) (putF "door" (V.ref d) []))) := by rw [← hH2]; exact upd_same
    have i2 : H2 il = some (.lst []) := by rw [← hH2, upd_ne nil_.symm]; exact upd_same
    -- self.by_key = {}
    intro kd hkd
    have nkd : p ≠ kd := ne_of_none a2 hkd
    have nik : il ≠ kd := ne_of_none i2 hkd
    refine ⟨_, rfl, p, G.c.pas, dx, _, rfl, (by rw [upd_ne nkd]; exact a2), T.clP, T.nP3, (by show 2 < 1000; decide), ?_⟩
    generalize hH3 : upd (upd H2 kd (NdO G.P G.w kd [])) p (HO.ins G.c.pas dx (putF "by_key" (V.ref kd) (putF "inner_of" (V.ref il) (putF "door" (V.ref d) [])))) = H3
    have k3 : Keep [p] H H3 := by rw [← hH3]; exact PI_keep (k2.updNew (k2.dom _ hkd) _) hp np0 _
    have a3 : H3 p = some (HO.ins G.c.pas dx (putF "by_key" (V.ref kd) (putF "inner_of" (V.ref il) (putF "door" (V.ref d) [])))) := by rw [← hH3]; exact upd_same
    have i3 : H3 il = some (.lst []) := by rw [← hH3, upd_ne nil_.symm, upd_ne nik]; exact i2
    have d3 : H3 kd = some (NdO G.P G.w kd []) := by rw [← hH3, upd_ne nkd.symm]; exact upd_same
    -- self.sent_to = []
    refine ⟨Nat.zero_le _, fun sl hsl => ?_⟩
    have nsl : p ≠ sl := ne_of_none a3 hsl
    have nis : il ≠ sl := ne_of_none i3 hsl
    have nks : kd ≠ sl := ne_of_none d3 hsl
    refine ⟨_, rfl, p, G.c.pas, dx, _, rfl, (by rw [upd_ne nsl]; exact a3), T.clP, T.nP4, (by show 3 < 1000; decide), ?_⟩
    have ef : putF "sent_to" (V.ref sl) (putF "by_key" (V.ref kd) (putF "inner_of" (V.ref il) (putF "door" (V.ref d) []))) = fP d il kd sl := by kernel_rfl
    have k4 : Keep [p] H (upd (upd H3 sl (HO.lst [])) p (HO.ins G.c.pas dx (putF "sent_to" (V.ref sl) (putF "by_key" (V.ref kd) (putF "inner_of" (V.ref il) (putF "door" (V.ref d) [])))))) := PI_keep (k3.updNew (k3.dom _ hsl) _) hp np0 _
    refine k _ [il, kd, sl] k4 ?_ ?_
    · intro b hb
      simp only [List.mem_cons, List.not_mem_nil, or_false] at hb
      rcases hb with rfl | rfl | rfl
      · exact k1.dom _ hil
      · exact k2.dom _ hkd
      · exact k3.dom _ hsl
    · rw [ef]
      refine ⟨dx, d, dd, il, kd, sl, [], [], rfl, by simp [nik, nis, nks], upd_same, ?_, ?_, ?_, rfl, rfl, (fun _ z => nomatch z), ?_, .nil⟩
      · have z := k4.old d _ hd (.inr pur_D)
        rw [ef] at z
        exact z
      · rw [upd_ne nil_.symm, upd_ne nis]; exact i3
      · rw [upd_ne nkd.symm, upd_ne nks]; exact d3
      · rw [upd_ne nsl.symm]; exact upd_same
end
end QD

set_option Elab.async false
set_option linter.all false
set_option maxRecDepth 100000
set_option maxHeartbeats 4000000
/-! Side: sent, lets_in, learns -/
namespace QD
open PySem PySem.Spec PyProof.Rows L2

theorem send_keeps {m m' : Sd} {a : Ad} {n : Nat} (h : m.send a = some (m', n)) : m'.adr = m.adr ∧ m'.heard = m.heard := by
  unfold Sd.send at h
  have eg : (m.grow (m.key a)).adr = m.adr ∧ (m.grow (m.key a)).heard = m.heard := by
    unfold Sd.grow
    split <;> exact ⟨rfl, rfl⟩
  cases e : (m.grow (m.key a)).sent[(m.grow (m.key a)).keys.idxOf (m.key a)]? with
  | none => rw [e] at h; cases h
  | some row =>
    rw [e] at h
    by_cases q : m.keys.length < 900 ∧ m.sent.length < 900 ∧ row.length < 900
    · simp only [if_pos q, Option.some.injEq, Prod.mk.injEq] at h
      rw [← h.1]
      unfold Sd.mark
      split <;> exact eg
    · simp only [if_neg q] at h
      cases h
def spSSent (G : Gx) : Sp := fun vs H Q _ => ∃ (s t : Addr) (a : Ad) (pl : Pl) (m m' : Sd) (n : Nat) (F : List Addr), vs = [.ref s, .ref t] ∧ SdAt G H s pl m F ∧ AdAt G.K H t a ∧ m.send a = some (m', n) ∧
  ∀ (H' : Hp) (F' : List Addr) (t' : Addr), Keep F H H' → Grow F F' H → SdAt G H' s pl m' F' → AdAt G.K H' t' (pl, n) → Q (.ref t') H'
def spLets (G : Gx) : Sp := fun vs H Q _ => ∃ (s t : Addr) (a : Ad) (n : Nat) (pl : Pl) (m : Sd) (b : Bool) (F : List Addr), vs = [.ref s, .int (n : Int), .ref t] ∧ SdAt G H s pl m F ∧ AdAt G.K H t a ∧ m.came n a = some b ∧
  ∀ H' : Hp, Keep [] H H' → Q (.bl b) H'
def spLearns (G : Gx) : Sp := fun vs H Q _ => ∃ (s t : Addr) (a : Ad) (pl : Pl) (m m' : Sd) (b : Bool) (F : List Addr), vs = [.ref s, .ref t] ∧ SdAt G H s pl m F ∧ AdAt G.K H t a ∧ m.learn a = some (m', b) ∧
  ∀ H' : Hp, Keep F H H' → SdAt G H' s pl m' F → Q (.bl b) H'
theorem scSS : FnScope ["self", "address", "number", "passage"] ["self", "address"] (C8.fnScope sSideSent) := C8.fnScope_by (by decide +kernel)
theorem scLI : FnScope ["self", "number", "address", "passage"] ["self", "number", "address"] (C8.fnScope sLetsIn) := C8.fnScope_by (by decide +kernel)
theorem scLn : FnScope ["self", "address", "is_new"] ["self", "address"] (C8.fnScope sLearns) := C8.fnScope_by (by decide +kernel)
section
variable {G : Gx} {mg : Str → Option Value} {base : Heap}
/-- the passage's own objects changed alone -/
theorem SdAt.pass {H H' : Hp} {s : Addr} {pl : Pl} {m m' : Sd} {dxs pst p al : Addr} {Fp Fp' : List Addr} (nd : (s :: pst :: al :: Fp).Nodup) (h1 : H s = some (.ins G.c.side dxs (fS pl pst al m.heard))) (h2 : H pst = some (.lst [.ref p])) (h3 : AdL G.K H al m.adr)
    (own : ∀ b ∈ Fp, ∃ u, H b = some u ∧ ¬ Pur u) (k : Keep Fp H H') (g : Grow Fp Fp' H) (h4 : PsAt G H' p m' Fp') (nd' : Fp'.Nodup) (e1 : m'.adr = m.adr) (e2 : m'.heard = m.heard) : SdAt G H' s pl m' (s :: pst :: al :: Fp') := by
  simp only [List.nodup_cons, List.mem_cons, not_or] at nd
  obtain ⟨⟨n1, n2, n3⟩, ⟨n4, n5⟩, n6, n7⟩ := nd
  have some_ : ∀ b, (∃ o, H b = some o) → b ∉ Fp → b ∉ Fp' := fun b ⟨o, e⟩ hb m => by
    rcases g b m with q | q
    · exact hb q
    · rw [e] at q; cases q
  obtain ⟨ts, h3a, h3b⟩ := id h3
  refine ⟨dxs, pst, p, al, Fp', rfl, ?_, ?_, k.old _ _ h2 (.inl n5), ?_, h4⟩
  · simp only [List.nodup_cons, List.mem_cons, not_or]
    exact ⟨⟨n1, n2, some_ _ ⟨_, h1⟩ n3⟩, ⟨n4, some_ _ ⟨_, h2⟩ n5⟩, some_ _ ⟨_, h3a⟩ n6, nd'⟩
  · rw [e2]; exact k.old _ _ h1 (.inl n3)
  · rw [e1]; exact k.adL n6 h3
theorem PsAt.nodup {H : Hp} {p : Addr} {m : Sd} {F : List Addr} (h : PsAt G H p m F) : F.Nodup := by
  obtain ⟨_, _, _, _, _, _, _, _, _, nd, _⟩ := h
  exact nd
theorem ok_ssent {f : Addr} {fd : FuncData} (F : C8.Fun G.K "sent" "Side.sent" sSideSent f fd) (T : Txt G.K mg G.c) (M : C8.Met G.P G.w G.K mg base 3 G.c.pas "sent" (spSent G) []) :
    FnOk G.P G.w G.K mg base C8.CX0 4 f fd ["self", "address"] (spSSent G) := by
  refine C8.fn0 F scSS (fun vs H Q E h => ?_) (fun cdv A outer s H vs Q E hr h => ?_)
  · obtain ⟨s, t, a, pl, m, m', n, F, rfl, _⟩ := h
    rfl
  · obtain ⟨sd, t, a, pl, m, m', n, Fo, rfl, SA, ta, hs, k⟩ := h
    refine ⟨_, pss_cons (ps_set (i := 2) scSS.nd rfl (.inl rfl) pe_int)
      (pss_cons (ps_for PassesOwn.never rfl (pi_list (pe_fld (pv 0) rfl)) (pg_name (i := 3) scSS.nd rfl (.inl rfl)) (pss_one (ps_set (i := 2) scSS.nd rfl (.inl rfl) (C8.pe_mt M hr (by decide) (pv 3) (pa_cons (pv 2) (pa_cons (pv 1) pa_nil))))))
      (pss_one (ps_ret (pe_tup (pa_cons (pe_fld (pv 0) rfl) (pa_cons (pv 2) pa_nil)))))), ?_⟩
    obtain ⟨dxs, pst, p, al, Fp, eF, nd, h1, h2, h3, h4⟩ := id SA
    obtain ⟨ea, eh⟩ := send_keeps hs
    have hp : ∃ dx fs, H p = some (.ins G.c.pas dx fs) ∧ fs.lookup ("sent" : Str) = none := by
      obtain ⟨dxp, d, dd, il, kd, sl, ls, L, _, _, q, _⟩ := h4
      exact ⟨_, _, q, by kernel_rfl⟩
    obtain ⟨dxp, fp, hp, hno⟩ := hp
    refine ⟨_, rfl, sd, G.c.side, dxs, _, _, rfl, h1, T.clS, T.nS2, lS2, pst, rfl, ⟨_, SqL.of h2⟩, for_list (K := G.K) (a := pst) (xs := [V.ref p]) (fun i σ H' => match i with
      | 0 => σ = [some (.ref sd), some (.ref t), some (.int 0), none] ∧ H' = H
      | _ => ∃ F', σ = [some (.ref sd), some (.ref t), some (.int (n : Int)), some (.ref p)] ∧ Keep Fo H H' ∧ Grow Fo F' H ∧ SdAt G H' sd pl m' F' ∧ H' pst = some (.lst [.ref p])) ⟨rfl, rfl⟩ ?_ ?_ ?_⟩
    · intro i σ H' hi hP
      match i, hi, hP with
      | 0, _, ⟨_, e⟩ => rw [e]; exact SqL.of h2
      | i + 1, _, ⟨F', _, _, _, _, e⟩ => exact SqL.of e
    · intro i x σ H' hx hP
      match i, hx, hP with
      | 0, hx, ⟨e1, e2⟩ =>
        have hx : V.ref p = x := Option.some.inj hx
        subst e1 e2 hx
        refine ⟨_, rfl, p, dxp, fp, rfl, hp, hno, _, rfl, _, rfl, p, t, a, m, m', n, Fp, rfl, h4, ta, hs, fun H' Fp' kp g PA => ?_⟩
        have own := h4.own
        have sub : ∀ b ∈ Fp, b ∈ Fo := fun b hb => by rw [eF]; simp [hb]
        have npf : pst ∉ Fp := by
          rw [eF] at nd
          simp only [List.nodup_cons, List.mem_cons, not_or] at nd
          exact nd.2.1.2
        refine ⟨sd :: pst :: al :: Fp', rfl, kp.mono sub, ?_, SdAt.pass (by rw [← eF]; exact nd) h1 h2 h3 own kp g PA PA.nodup ea eh, kp.old _ _ h2 (.inl npf)⟩
        intro b hb
        simp only [List.mem_cons] at hb
        rcases hb with rfl | rfl | rfl | hb
        · exact .inl (by rw [eF]; simp)
        · exact .inl (by rw [eF]; simp)
        · exact .inl (by rw [eF]; simp)
        · exact (g b hb).imp (sub b) id
      | i + 1, hx, _ => simp at hx
    · rintro σ H' ⟨F', rfl, kp, g, SA', _⟩
      obtain ⟨dxs', pst', p', al', Fp', eF', nd', g1, g2, g3, g4⟩ := id SA'
      refine ⟨_, rfl, sd, G.c.side, dxs', _, _, rfl, g1, T.clS, T.nS1, lS1, _, rfl, (by show 2 ≤ sizeLine; decide), fun t' ht' => ?_⟩
      have kn : Keep [] H' (upd H' t' (HO.tup [V.str pl.s, V.int (n : Int)])) := Keep.new ht' _
      exact k _ F' t' (kp.tr0 kn) g (kn.sd (fun _ _ z => nomatch z) SA') (.of upd_same)
theorem ok_lets {f : Addr} {fd : FuncData} (F : C8.Fun G.K "lets_in" "Side.lets_in" sLetsIn f fd) (T : Txt G.K mg G.c) (M : C8.Met G.P G.w G.K mg base 3 G.c.pas "came" (spCame G) []) :
    FnOk G.P G.w G.K mg base C8.CX0 4 f fd ["self", "number", "address"] (spLets G) := by
  refine C8.fn0 F scLI (fun vs H Q E h => ?_) (fun cdv A outer s H vs Q E hr h => ?_)
  · obtain ⟨s, t, a, n, pl, m, b, F, rfl, _⟩ := h
    rfl
  · obtain ⟨sd, t, a, n, pl, m, b, Fo, rfl, SA, ta, hs, k⟩ := h
    refine ⟨_, pss_cons (ps_for PassesOwn.never rfl (pi_list (pe_revL (pe_fld (pv 0) rfl))) (pg_name (i := 3) scLI.nd rfl (.inl rfl))
        (pss_cons (ps_set (i := 1) scLI.nd rfl (.inl rfl) (C8.pe_mt M hr (by decide) (pv 3) (pa_cons (pv 1) (pa_cons (pv 2) pa_nil))))
        (pss_one (ps_if (pt_cmp (pc_isN (pv 1))) (pss_one (ps_ret pe_bl)) pss_nil))))
      (pss_one (ps_ret pe_bl)), ?_⟩
    obtain ⟨dxs, pst, p, al, Fp, eF, nd, h1, h2, h3, h4⟩ := id SA
    have hp : ∃ dx fs, H p = some (.ins G.c.pas dx fs) ∧ Pur (.ins G.c.pas dx fs) ∧ fs.lookup ("came" : Str) = none := by
      obtain ⟨dxp, d, dd, il, kd, sl, ls, L, _, _, q, _⟩ := h4
      exact ⟨_, _, q, pur_P, by kernel_rfl⟩
    obtain ⟨dxp, fp, hp, pp, hno⟩ := hp
    refine ⟨_, rfl, sd, G.c.side, dxs, _, _, rfl, h1, T.clS, T.nS2, lS2, pst, _, rfl, SqL.of h2, fun r hr0 => ⟨r, rfl, ⟨_, SqL.of upd_same⟩, for_list (K := G.K) (a := r) (xs := [V.ref p]) (fun i σ H' => Keep [] H H' ∧ H' r = some (.lst [V.ref p]) ∧ (match i with
      | 0 => σ = [some (.ref sd), some (.int (n : Int)), some (.ref t), none]
      | _ => b = true)) ⟨Keep.new hr0 _, upd_same, rfl⟩ (fun i σ H' _ ⟨_, e, _⟩ => SqL.of e) ?_ ?_⟩⟩
    · rintro i x σ H' hx ⟨kp, e, hP⟩
      match i, hx, hP with
      | 0, hx, hP =>
        have hP : σ = [some (.ref sd), some (.int (n : Int)), some (.ref t), none] := hP
        subst hP
        have hx : V.ref p = x := Option.some.inj hx
        subst hx
        have SA1 := kp.sd (fun _ _ z => nomatch z) SA
        obtain ⟨dxs', pst', p', al', Fp', eF', nd', g1, g2, g3, g4⟩ := id SA1
        have ep := g2.symm.trans (show H' pst' = some (.lst [.ref p']) from g2)
        have g4' := kp.ps (fun _ _ z => nomatch z) h4
        refine ⟨_, rfl, p, dxp, fp, rfl, kp.old _ _ hp (.inr pp), hno, _, rfl, _, rfl, p, t, a, n, m, b, Fp, rfl, g4', kp.adAt (G := G) ta, hs, fun H2 kp2 => ?_⟩
        refine ⟨_, rfl, _, rfl, ?_⟩
        cases b with
        | true => exact iteF ⟨kp.tr kp2, kp2.old _ _ e (.inl fun z => nomatch z), rfl⟩
        | false => exact iteT (k H2 (kp.tr kp2))
      | i + 1, hx, _ => simp at hx
    · rintro σ H' ⟨kp, _, hb⟩
      have hb : b = true := hb
      subst hb
      exact k H' kp
theorem ok_learns {f : Addr} {fd : FuncData} (F : C8.Fun G.K "learns" "Side.learns" sLearns f fd) (T : Txt G.K mg G.c) :
    FnOk G.P G.w G.K mg base C8.CX0 1 f fd ["self", "address"] (spLearns G) := by
  refine C8.fn0 F scLn (fun vs H Q E h => ?_) (fun cdv A outer s H vs Q E hr h => ?_)
  · obtain ⟨s, t, a, pl, m, m', b, F, rfl, _⟩ := h
    rfl
  · obtain ⟨sd, t, a, pl, m, m', b, Fo, rfl, SA, ta, hs, k⟩ := h
    have hu5 := u65 hr
    refine ⟨_, pss_cons (ps_set (i := 2) scLn.nd rfl (.inl rfl) (pe_cmpR (op_notInD hu5) (pv 1) (pe_fld (pv 0) rfl) (by rfl)))
      (pss_cons (ps_if (pt_val (pv 2)) (pss_one (ps_expr (pe_bm PySem.F.plainAttrs_list PySem.F.slot_list_append PySem.F.type_list_append mt_append (pe_fld (pv 0) rfl) (pa_cons (pv 1) pa_nil)))) pss_nil)
      (pss_one (ps_ret (pv 2)))), ?_⟩
    obtain ⟨dxs, pst, p, al, Fp, eF, nd, h1, h2, ⟨ts, h3, h3'⟩, h4⟩ := id SA
    unfold Sd.learn at hs
    have hlen : m.adr.length < 900 := by
      by_cases q : m.adr.length < 900
      · exact q
      · rw [if_neg q] at hs; cases hs
    rw [if_pos hlen] at hs
    have htl : ts.length = m.adr.length := h3'.length
    refine ⟨_, rfl, _, rfl, sd, G.c.side, dxs, _, _, rfl, h1, T.clS, T.nS3, lS3, dA a, m.adr.map dA, dA_dp ta, .lst (SqL.of h3) (dAs_dp h3'), dA_sh a, dAs_sh m.adr, _, rfl, _, rfl, ?_⟩
    rw [any_dA]
    by_cases hin : a ∈ m.adr
    · rw [decide_eq_true hin]
      rw [if_pos hin] at hs
      cases hs
      exact iteF ⟨_, rfl, k H (Keep.refl _ _) SA⟩
    · rw [decide_eq_false hin]
      rw [if_neg hin] at hs
      cases hs
      refine iteT ?_
      refine ⟨_, rfl, sd, G.c.side, dxs, _, _, rfl, h1, T.clS, T.nS3, lS3, .inl ⟨rfl, _, SqL.of h3⟩, _, rfl, al, _, _, rfl, rfl, h3, small1000 (by rw [List.length_map]; omega), _, rfl, ?_⟩
      have kk : Keep Fo H (upd H al (HO.lst (ts.map V.ref ++ [V.ref t]))) := Keep.upd (by rw [eF]; simp) h3 id _
      have nd2 := nd
      rw [eF] at nd2
      simp only [List.nodup_cons, List.mem_cons, not_or] at nd2
      obtain ⟨⟨n1, n2, n3⟩, ⟨n4, n5⟩, n6, n7⟩ := nd2
      refine k _ kk ⟨dxs, pst, p, al, Fp, eF, nd, by rw [upd_ne n2]; exact h1, by rw [upd_ne n4]; exact h2, ⟨ts ++ [t], by rw [upd_same, List.map_append] <;> rfl, Paired.snoc (kk.adAts h3') (kk.adAt (G := G) ta)⟩, ?_⟩
      have kk2 : Keep [al] H (upd H al (HO.lst (ts.map V.ref ++ [V.ref t]))) := Keep.upd (by simp) h3 id _
      exact kk2.ps (fun b hb z => by simp at z; subst z; exact n6 hb) (show PsAt G H p { m with adr := m.adr ++ [a] } Fp from h4)
end
end QD

set_option Elab.async false
set_option linter.all false
set_option maxRecDepth 100000
set_option maxHeartbeats 4000000
/-! Side.__init__ -/
namespace QD
open PySem PySem.Spec PyProof.Rows L2

def spSideI (G : Gx) : Sp := fun vs H Q _ => ∃ (s dx e : Addr) (q : Gv × Lt) (pl : Pl), vs = [.ref s, .ref e, .str pl.s] ∧ H s = some (.ins G.c.side dx []) ∧ EndAt G H e q ∧
  ∀ (H' : Hp) (F' : List Addr), Keep [s] H H' → (∀ b ∈ F', b = s ∨ H b = none) → SdAt G H' s pl (Sd.new q) F' → Q .non H'
theorem scSI : FnScope ["self", "end", "place", "door"] ["self", "end", "place"] (C8.fnScope sSideI) := C8.fnScope_by (by decide +kernel)
theorem npur0 {C dx : Addr} : ¬ Pur (HO.ins C dx []) := by
  show ¬ (_ ∨ _ ∨ _)
  rintro (z | z | z) <;> cases z
theorem npur_of {C dx : Addr} {fs : List (Str × V)} (h1 : (fs.lookup ("kept_lets" : Str)).isSome = false) (h2 : (fs.lookup ("kept_doors" : Str)).isSome = false) (h3 : (fs.lookup ("sent_to" : Str)).isSome = false) : ¬ Pur (HO.ins C dx fs) := by
  show ¬ (_ ∨ _ ∨ _)
  rw [h1, h2, h3]
  simp
section
variable {G : Gx} {mg : Str → Option Value} {base : Heap}
theorem ok_sideI {f : Addr} {fd : FuncData} (F : C8.Fun G.K "__init__" "Side.__init__" sSideI f fd) (T : Txt G.K mg G.c) (PD : Prp G.P G.w G.K mg base 1 G.c.end_ "doors" "kept_doors") (M : C8.Mak G.P G.w G.K mg base 1 "Passage" G.c.pas (spPasI G) []) :
    FnOk G.P G.w G.K mg base C8.CX0 3 f fd ["self", "end", "place"] (spSideI G) := by
  refine C8.fn0 F scSI (fun vs H Q E h => ?_) (fun cdv A outer s H vs Q E hr h => ?_)
  · obtain ⟨s, dx, e, q, pl, rfl, _⟩ := h
    rfl
  · obtain ⟨sd, dx, e, q, pl, rfl, hs, ⟨de, t, d, he, ht, hd⟩, k⟩ := h
    refine ⟨_, pss_cons (ps_fld (pv 0) (pv 2) rfl)
      (pss_cons (ps_fld (pv 0) (pe_lc (own := [("door", 3)]) (g := gName 3) (tt := tYes) rfl scSI.nd (pi_tup (pe_pr PD hr (by decide) (pv 1) rfl)) (blkOk_by (own := [("door", 3)]) (N := ["self", "end", "place", "door"]) (sc := C8.fnScope sSideI) (by decide +kernel))
          (fun _ _ _ _ _ => pg_name (i := 3) scSI.nd rfl (.inl rfl)) (fun _ _ _ _ _ => pts_nil) (fun _ _ _ _ _ => C8.pe_mk M hr (by decide) (by rfl) (pa_cons (pv 3) pa_nil))) rfl)
      (pss_cons (ps_fld (pv 0) (pe_lst pa_nil) rfl)
      (pss_one (ps_fld (pv 0) pe_bl rfl)))), ?_⟩
    -- self.place = place
    refine ⟨_, rfl, _, rfl, sd, G.c.side, dx, [], rfl, hs, T.clS, T.nS1, (by show 0 < 1000; decide), ?_⟩
    generalize hH1 : upd H sd (HO.ins G.c.side dx (putF "place" (V.str pl.s) [])) = H1
    have k1 : Keep [sd] H H1 := by rw [← hH1]; exact PI_keep (Keep.refl _ _) hs npur0 _
    have a1 : H1 sd = some (HO.ins G.c.side dx (putF "place" (V.str pl.s) [])) := by rw [← hH1]; exact upd_same
    -- self.passages = [Passage(door) for door in end.doors]
    refine ⟨_, rfl, e, de, _, rfl, k1.old _ _ he (.inr pur_E), e, de, _, _, rfl, k1.old _ _ he (.inr pur_E), lE1, t, rfl, ⟨_, k1.sqt ht⟩, fun D hD => ?_⟩
    have nD : sd ≠ D := ne_of_none a1 hD
    refine lc_tup (K := G.K) (a := t) (xs := [V.ref d]) (fun i H' => Keep [] H1 H' ∧ ∃ xs, H' D = some (.lst xs) ∧ (match i with
      | 0 => xs = []
      | _ => ∃ p Fp, xs = [V.ref p] ∧ PsAt G H' p (Sd.new q) Fp ∧ ∀ b ∈ Fp, H1 b = none ∧ b ≠ D)) ⟨Keep.new hD _, [], upd_same, rfl⟩ (fun i H' _ ⟨kp, _⟩ => kp.sqt (k1.sqt ht)) ?_ ?_
    · rintro i x H' hx ⟨kp, xs, hx1, hP⟩
      match i, hx, hP with
      | 0, hx, hP =>
        have hP : xs = [] := hP
        subst hP
        have hx : V.ref d = x := Option.some.inj hx
        subst hx
        refine ⟨rfl, ?_⟩
        simp only [tYes, ↓reduceIte]
        refine ⟨_, rfl, ?_⟩
        intro p dxp np ndx nex
        have km : Keep [] H' (upd (upd H' dxp (.own p)) p (.ins G.c.pas dxp [])) := Keep.made np ndx nex
        refine ⟨p, dxp, d, q, rfl, upd_same, km.door (kp.door (k1.door hd)), fun H2 Fp k2 fr PA => ⟨rfl, ?_⟩⟩
        have nDp : D ≠ p := ne_of_none hx1 np
        have h2D : H2 D = some (.lst []) := k2.old _ _ (km.old _ _ hx1 (.inl fun z => nomatch z)) (.inl (by simp [nDp]))
        have k3 : Keep [] H1 H2 := by
          refine ⟨fun b o e h => ?_, fun b e => kp.dom b (km.dom b (k2.dom b e))⟩
          have e' := kp.old b o e h
          refine k2.old b o (km.old b o e' (.inl fun z => nomatch z)) (.inl ?_)
          simp only [List.mem_singleton]
          exact ne_of_none e' np
        refine ⟨[], h2D, by decide, k3.updNew hD _, _, upd_same, p, Fp, rfl, ?_, fun b hb => ?_⟩
        · have kD : Keep [D] H2 (upd H2 D (.lst [V.ref p])) := Keep.upd (by simp) h2D id _
          refine kD.ps (fun b hb z => ?_) PA
          simp only [List.mem_singleton] at z
          subst z
          have := km.dom _ (fr b hb)
          rw [hx1] at this
          cases this
        · have z := fr b hb
          refine ⟨kp.dom b (km.dom b z), ?_⟩
          rintro rfl
          have := km.dom _ z
          rw [hx1] at this
          cases this
      | i + 1, hx, _ => simp at hx
    · rintro H2 ⟨k2, xs, h2D, p, Fp, rfl, PA, fr⟩
      have a2 : H2 sd = some (HO.ins G.c.side dx (putF "place" (V.str pl.s) [])) := k2.old _ _ a1 (.inl fun z => nomatch z)
      refine ⟨_, rfl, sd, G.c.side, dx, _, rfl, a2, T.clS, T.nS2, (by show 1 < 1000; decide), ?_⟩
      generalize hH3 : upd H2 sd (HO.ins G.c.side dx (putF "passages" (V.ref D) (putF "place" (V.str pl.s) []))) = H3
      have k3 : Keep [sd] H H3 := by rw [← hH3]; exact PI_keep (k1.tr0 k2) hs npur0 _
      have a3 : H3 sd = some (HO.ins G.c.side dx (putF "passages" (V.ref D) (putF "place" (V.str pl.s) []))) := by rw [← hH3]; exact upd_same
      have d3 : H3 D = some (.lst [V.ref p]) := by rw [← hH3, upd_ne nD.symm]; exact h2D
      have k23 : Keep [sd] H2 H3 := by rw [← hH3]; exact Keep.upd (by simp) a2 (npur_of (by kernel_rfl) (by kernel_rfl) (by kernel_rfl)) _
      have nsF : ∀ b ∈ Fp, b ≠ sd := fun b hb z => by
        have := (fr b hb).1
        rw [z, a1] at this
        cases this
      have PA3 : PsAt G H3 p (Sd.new q) Fp := k23.ps (fun b hb z => nsF b hb (by simpa using z)) PA
      -- self.addresses = []
      refine ⟨Nat.zero_le _, fun al hal => ?_⟩
      have nal : sd ≠ al := ne_of_none a3 hal
      have nDl : D ≠ al := ne_of_none d3 hal
      refine ⟨_, rfl, sd, G.c.side, dx, _, rfl, (by rw [upd_ne nal]; exact a3), T.clS, T.nS3, (by show 2 < 1000; decide), ?_⟩
      generalize hH4 : upd (upd H3 al (HO.lst [])) sd (HO.ins G.c.side dx (putF "addresses" (V.ref al) (putF "passages" (V.ref D) (putF "place" (V.str pl.s) [])))) = H4
      have k4 : Keep [sd] H H4 := by rw [← hH4]; exact PI_keep (k3.updNew (k3.dom _ hal) _) hs npur0 _
      have a4 : H4 sd = some (HO.ins G.c.side dx (putF "addresses" (V.ref al) (putF "passages" (V.ref D) (putF "place" (V.str pl.s) [])))) := by rw [← hH4]; exact upd_same
      -- self.has_heard = False
      refine ⟨_, rfl, sd, G.c.side, dx, _, rfl, a4, T.clS, T.nS4, (by show 3 < 1000; decide), ?_⟩
      have ef : putF "has_heard" (V.bl false) (putF "addresses" (V.ref al) (putF "passages" (V.ref D) (putF "place" (V.str pl.s) []))) = fS pl D al false := by kernel_rfl
      have k5 : Keep [sd] H (upd H4 sd (HO.ins G.c.side dx (putF "has_heard" (V.bl false) (putF "addresses" (V.ref al) (putF "passages" (V.ref D) (putF "place" (V.str pl.s) [])))))) := PI_keep k4 hs npur0 _
      have k35 : Keep [sd] H3 (upd H4 sd (HO.ins G.c.side dx (putF "has_heard" (V.bl false) (putF "addresses" (V.ref al) (putF "passages" (V.ref D) (putF "place" (V.str pl.s) [])))))) := by
        have np3 : ¬ Pur (HO.ins G.c.side dx (putF "passages" (V.ref D) (putF "place" (V.str pl.s) []))) := npur_of (by kernel_rfl) (by kernel_rfl) (by kernel_rfl)
        refine PI_keep ?_ a3 np3 _
        rw [← hH4]
        exact PI_keep (Keep.new hal _) a3 np3 _
      refine k _ (sd :: D :: al :: Fp) k5 ?_ ?_
      · intro b hb
        simp only [List.mem_cons] at hb
        rcases hb with rfl | rfl | rfl | hb
        · exact .inl rfl
        · exact .inr (k1.dom _ hD)
        · exact .inr (k3.dom _ hal)
        · exact .inr (k1.dom _ (fr b hb).1)
      · have PA5 := k35.ps (fun b hb z => nsF b hb (by simpa using z)) PA3
        rw [ef] at PA5 ⊢
        have alF : al ∉ Fp := fun z => by
          obtain ⟨o, q, _⟩ := PA3.own al z
          rw [hal] at q
          cases q
        refine ⟨dx, D, p, al, Fp, rfl, ?_, upd_same, ?_, ⟨[], ?_, .nil⟩, PA5⟩
        · simp only [List.nodup_cons, List.mem_cons, not_or]
          exact ⟨⟨nD, nal, fun z => nsF _ z rfl⟩, ⟨nDl, fun z => (fr _ z).2 rfl⟩, alF, PA5.nodup⟩
        · rw [upd_ne nD.symm, ← hH4, upd_ne nD.symm, upd_ne nDl]; exact d3
        · rw [upd_ne nal.symm, ← hH4, upd_ne nal.symm]; exact upd_same
end
end QD

set_option Elab.async false
set_option linter.all false
set_option maxRecDepth 100000
set_option maxHeartbeats 4000000
/-! Meeting: side, known, heard, is_over, __len__; len of an own object -/
namespace QD
open PySem PySem.Spec PyProof.Rows L2

/-! ### len(o), o an instance with its own __len__ -/
theorem call_lenO {X : Cx} {k : Nat} {C f : Addr} {fd : FuncData} {sp : Sp} (hi : PySem.W.findIn X.K (.ref C) "__len__" = some (some (.ref f))) (hf : PySem.W.isFn X.K (.ref f) = true) (F : FnOk X.prog X.w X.K X.mg X.base C8.CX0 k f fd ["self"] sp)
    (hr : Room (k + 1) X.A) (hb : Binds X.K fd ["self"] []) : CallR X (.builtin "len") (fun xs H Q => ∃ (a dx : Addr) (fs : List (Str × V)), xs = [.ref a] ∧ H a = some (.ins C dx fs) ∧
      sp [.ref a] H (fun v H' => ∃ n : Int, v = .int n ∧ 0 ≤ n ∧ n < 2 ^ 63 ∧ Q (.int n) H') C8.E0) := by
  intro pins s σ H xs us Q I r h
  obtain ⟨a, dx, fs, rfl, ha, q⟩ := h
  obtain ⟨u, rfl, ru⟩ := vals1 r
  cases ru
  obtain ⟨m, Ff⟩ := I.fr
  obtain ⟨mA, O, _⟩ := ins_get I.hok ha
  obtain ⟨od, J, _⟩ := O.look
  refine PySem.W.len_K Ff I.mod.kin J hi hf (wpAny_call (codeAny_mono (F.run X.A.in1 X.stack s H ⟨[.ref a], []⟩ [.ref a] [.ref a] _ C8.E0 hr.in1 I.env0.in1 (hb s [.ref a] I.kIn rfl) (.cons rfl .nil) q) fun r s' hq => ?_))
  cases r with
  | error er => exact False.elim hq
  | ok fl =>
    cases fl with
    | ret u =>
      obtain ⟨v, H', I3, rv, n, rfl, h0, h1, q3⟩ := I.after hq
      obtain ⟨t, rfl⟩ := rv
      exact ⟨⟨h0, h1⟩, .int n, H', I3.tok _, ⟨_, rfl⟩, q3⟩
    | next => exact False.elim hq
    | brk => exact False.elim hq
    | cont => exact False.elim hq

/-! ### addresses in order -/
def adL3 (t : Addr) (a : Ad) : Addr × Str × Int := (t, a.1.s, (a.2 : Int))
theorem ads_zip {K : PySem.W.Frag} {H : Hp} : ∀ {ts : List Addr} {as : List Ad}, Paired (AdAt K H) ts as → ∃ L : List (Addr × Str × Int), L.map (fun p => V.ref p.1) = ts.map V.ref ∧ L.map (·.2) = as.map (fun a => (a.1.s, (a.2 : Int))) ∧ ∀ p ∈ L, SqT K H p.1 [.str p.2.1, .int p.2.2]
  | _, _, .nil => ⟨[], rfl, rfl, fun _ z => nomatch z⟩
  | _, _, .cons (a := t) (b := a) r q => by
    obtain ⟨L, e1, e2, e3⟩ := ads_zip q
    refine ⟨adL3 t a :: L, by rw [List.map_cons, e1, List.map_cons] <;> rfl, by rw [List.map_cons, e2, List.map_cons] <;> rfl, fun p hp => ?_⟩
    rcases List.mem_cons.mp hp with e | hp
    · subst e; exact r
    · exact e3 p hp
theorem ord_in : ∀ {as : List Ad}, ordA as = true → InOrd (as.map fun a => (a.1.s, (a.2 : Int)))
  | [], _ => List.Pairwise.nil
  | a :: as, h => by
    unfold ordA at h
    rw [Bool.and_eq_true, List.all_eq_true] at h
    refine List.Pairwise.cons (fun b hb => ?_) (ord_in h.2)
    obtain ⟨c, hc, e⟩ := List.mem_map.mp hb
    have q := h.1 c hc
    rw [Bool.and_eq_true, decide_eq_true_eq, decide_eq_true_eq] at q
    rw [← e]
    exact ⟨by show a.1.s = c.1.s; rw [q.1], by show (a.2 : Int) ≤ (c.2 : Int); omega⟩

/-! ### promises -/
def spMside (G : Gx) : Sp := fun vs H Q _ => ∃ (t : Addr) (pl : Pl) (M : Mt) (F : List Addr), vs = [.ref t, .str pl.s] ∧ pl ≠ .h ∧ MtAt G H t M F ∧ ∀ (s : Addr) (Fs : List Addr), SdAt G H s pl (M.side pl) Fs → Q (.ref s) H
def spKnown (G : Gx) : Sp := fun vs H Q _ => ∃ (t : Addr) (pl : Pl) (M : Mt) (F : List Addr), vs = [.ref t, .str pl.s] ∧ pl ≠ .h ∧ MtAt G H t M F ∧ ordA (M.side pl).adr = true ∧ (M.side pl).adr.length < 900 ∧
  ∀ (H' : Hp) (l : Addr) (ts : List Addr), Keep [] H H' → H' l = some (.tup (ts.map V.ref)) → Paired (AdAt G.K H') ts (M.side pl).adr → Q (.ref l) H'
def spHeard (G : Gx) : Sp := fun vs H Q _ => ∃ (t : Addr) (pl : Pl) (M : Mt) (F : List Addr), vs = [.ref t, .str pl.s] ∧ pl ≠ .h ∧ MtAt G H t M F ∧ Q (.bl (M.side pl).heard) H
def spOver (G : Gx) : Sp := fun vs H Q _ => ∃ (t : Addr) (M : Mt) (F : List Addr), vs = [.ref t] ∧ MtAt G H t M F ∧ Q (.bl M.over) H
def spMlen (G : Gx) : Sp := fun vs H Q _ => ∃ (t : Addr) (M : Mt) (F : List Addr), vs = [.ref t] ∧ MtAt G H t M F ∧ Q (.int (M.n : Int)) H
theorem scMs : FnScope ["self", "place"] ["self", "place"] (C8.fnScope sMside) := C8.fnScope_by (by decide +kernel)
theorem scKn : FnScope ["self", "place"] ["self", "place"] (C8.fnScope sKnown) := C8.fnScope_by (by decide +kernel)
theorem scHe : FnScope ["self", "place"] ["self", "place"] (C8.fnScope sHeard) := C8.fnScope_by (by decide +kernel)
theorem scOv : FnScope ["self"] ["self"] (C8.fnScope sIsOver) := C8.fnScope_by (by decide +kernel)
theorem scMl : FnScope ["self"] ["self"] (C8.fnScope sMlen) := C8.fnScope_by (by decide +kernel)
theorem in_places (pl : Pl) (h : pl ≠ .h) : inV (V.str pl.s) [V.str "x", V.str "y"] = true := by
  cases pl with
  | x => decide +kernel
  | y => decide +kernel
  | h => exact absurd rfl h
def pick (pl : Pl) (sx sy : Addr) : Addr := match pl with | .x => sx | _ => sy
theorem side_get {pl : Pl} (h : pl ≠ .h) {sx sy : Addr} : valV ([(.inr "x", .ref sx), (.inr "y", .ref sy)] : List (Key × V)) (.inr pl.s) = some (.ref (pick pl sx sy)) := by
  cases pl with
  | x => kernel_rfl
  | y => kernel_rfl
  | h => exact absurd rfl h
section
variable {G : Gx} {mg : Str → Option Value} {base : Heap}
theorem MtAt.sideAt {H : Hp} {t : Addr} {M : Mt} {F : List Addr} (h : MtAt G H t M F) {pl : Pl} (hp : pl ≠ .h) : ∃ (dx sd ro sx sy : Addr), H t = some (.ins G.c.meet dx (fM sd ro M.stuck)) ∧ H sd = some (.dK [(.inr "x", .ref sx), (.inr "y", .ref sy)]) ∧
    ∃ Fs, SdAt G H (pick pl sx sy) pl (M.side pl) Fs := by
  obtain ⟨dx, sd, ro, sx, sy, rs, Fx, Fy, e, nd, h1, h2, h3, h4, h5, h6⟩ := h
  refine ⟨dx, sd, ro, sx, sy, h1, h2, ?_⟩
  cases pl with
  | x => exact ⟨Fx, h5⟩
  | y => exact ⟨Fy, h6⟩
  | h => exact absurd rfl hp
theorem ok_mside {f : Addr} {fd : FuncData} (F : C8.Fun G.K "side" "Meeting.side" sMside f fd) (T : Txt G.K mg G.c) :
    FnOk G.P G.w G.K mg base C8.CX0 1 f fd ["self", "place"] (spMside G) := by
  refine C8.fn0 F scMs (fun vs H Q E h => ?_) (fun cdv A outer s H vs Q E hr h => ?_)
  · obtain ⟨t, pl, M, F, rfl, _⟩ := h
    rfl
  · obtain ⟨t, pl, M, Fo, rfl, hpl, MA, k⟩ := h
    have hu := hu_of hr
    refine ⟨_, pss_cons (ps_if (PW.pt (pw_or (pt_not (pt_val (pe_callB call_isi (by rfl) T.isinstance (by decide +kernel) (pa_cons (pv 1) (pa_cons (pe_bltn (v := .ty "str") (by rfl) T.str (by decide +kernel) rfl) pa_nil)))))
          (pw_or1 (pt_cmpR op_notIn_seq (pv 1) (C8.pe_gc (v := .ref T.places.choose) rfl ⟨_, T.places.choose_spec.1, rfl⟩) (by rfl))))) (pss_one ps_never) pss_nil)
      (pss_one (ps_ret (pe_dget hu (pe_fld (pv 0) rfl) (pv 1) (fun _ _ => rfl)))), ?_⟩
    obtain ⟨dx, sd, ro, sx, sy, h1, h2, Fs, SA⟩ := MA.sideAt hpl
    refine ⟨_, rfl, _, _, _, _, true, rfl, .ty "str", .base (.str _), kit_ty (by decide +kernel), _, rfl, ?_⟩
    refine iteF ⟨_, rfl, _, _, rfl, .inr T.places.choose_spec.2.sq, rfl, rfl, _, rfl, ?_⟩
    change (if (!inV (V.str pl.s) [V.str "x", V.str "y"]) = true then _ else _)
    rw [in_places pl hpl]
    refine iteF ⟨_, rfl, t, G.c.meet, dx, _, _, rfl, h1, T.clM, T.nM1, lM1, _, rfl, sd, _, rfl, ?_, k _ Fs SA⟩
    rw [← side_get hpl]
    exact DGet.k (k := .inr pl.s) h2
theorem ok_known {f : Addr} {fd : FuncData} (F : C8.Fun G.K "known" "Meeting.known" sKnown f fd) (T : Txt G.K mg G.c) (MS : C8.Met G.P G.w G.K mg base 1 G.c.meet "side" (spMside G) []) :
    FnOk G.P G.w G.K mg base C8.CX0 2 f fd ["self", "place"] (spKnown G) := by
  refine C8.fn0 F scKn (fun vs H Q E h => ?_) (fun cdv A outer s H vs Q E hr h => ?_)
  · obtain ⟨t, pl, M, F, rfl, _⟩ := h
    rfl
  · obtain ⟨t, pl, M, Fo, rfl, hpl, MA, ho, hlen, k⟩ := h
    have hu := hr.units
    refine ⟨_, pss_one (ps_ret (pe_callTy call_tuple_of (by rfl) T.tuple (by decide +kernel) (pa_cons (pe_callB (cr_sortA hu) (by rfl) T.sorted (by decide +kernel) (pa_cons (pe_fld (C8.pe_mt MS hr (by decide) (pv 0) (pa_cons (pv 1) pa_nil)) rfl) pa_nil)) pa_nil))), ?_⟩
    obtain ⟨dx, sd, ro, sx, sy, h1, h2, _⟩ := MA.sideAt hpl
    refine ⟨_, rfl, t, dx, _, rfl, h1, by kernel_rfl, _, rfl, t, pl, M, Fo, rfl, hpl, MA, fun sa Fs SA => ?_⟩
    obtain ⟨dxs, pst, p, al, Fp, eF, nd, g1, g2, ⟨ts, g3, g4⟩, g5⟩ := id SA
    obtain ⟨L, e1, e2, e3⟩ := ads_zip g4
    have hL : L.length = (M.side pl).adr.length := by
      have := congrArg List.length e2
      simpa using this
    refine ⟨sa, G.c.side, dxs, _, _, rfl, g1, T.clS, T.nS3, lS3, al, L, rfl, SqL.of (by rw [e1]; exact g3), e3, by omega, by rw [e2]; exact ord_in ho, fun q hq => ?_⟩
    rw [e1]
    refine ⟨q, _, rfl, .inl ⟨SqL.of upd_same, fun l hl => ?_⟩⟩
    have k1 : Keep [] H (upd H q (HO.lst (ts.map V.ref))) := Keep.new hq _
    have k2 : Keep [] H (upd (upd H q (HO.lst (ts.map V.ref))) l (HO.tup (ts.map V.ref))) := k1.tr (Keep.new hl _)
    exact k _ l ts k2 upd_same (k2.adAts g4)
theorem ok_heard {f : Addr} {fd : FuncData} (F : C8.Fun G.K "heard" "Meeting.heard" sHeard f fd) (T : Txt G.K mg G.c) (MS : C8.Met G.P G.w G.K mg base 1 G.c.meet "side" (spMside G) []) :
    FnOk G.P G.w G.K mg base C8.CX0 2 f fd ["self", "place"] (spHeard G) := by
  refine C8.fn0 F scHe (fun vs H Q E h => ?_) (fun cdv A outer s H vs Q E hr h => ?_)
  · obtain ⟨t, pl, M, F, rfl, _⟩ := h
    rfl
  · obtain ⟨t, pl, M, Fo, rfl, hpl, MA, k⟩ := h
    refine ⟨_, pss_one (ps_ret (pe_fld (C8.pe_mt MS hr (by decide) (pv 0) (pa_cons (pv 1) pa_nil)) rfl)), ?_⟩
    obtain ⟨dx, sd, ro, sx, sy, h1, h2, _⟩ := MA.sideAt hpl
    refine ⟨_, rfl, t, dx, _, rfl, h1, by kernel_rfl, _, rfl, t, pl, M, Fo, rfl, hpl, MA, fun sa Fs SA => ?_⟩
    obtain ⟨dxs, pst, p, al, Fp, eF, nd, g1, g2, _⟩ := id SA
    exact ⟨sa, G.c.side, dxs, _, _, rfl, g1, T.clS, T.nS4, lS4, k⟩
theorem ok_over {f : Addr} {fd : FuncData} (F : C8.Fun G.K "is_over" "Meeting.is_over" sIsOver f fd) (T : Txt G.K mg G.c) (MH : C8.Met G.P G.w G.K mg base 2 G.c.meet "heard" (spHeard G) []) :
    FnOk G.P G.w G.K mg base C8.CX0 3 f fd ["self"] (spOver G) := by
  refine C8.fn0 F scOv (fun vs H Q E h => ?_) (fun cdv A outer s H vs Q E hr h => ?_)
  · obtain ⟨t, M, F, rfl, _⟩ := h
    rfl
  · obtain ⟨t, M, Fo, rfl, MA, k⟩ := h
    refine ⟨_, pss_one (ps_ret (pe_or (pe_fld (pv 0) rfl) (pe_one (pe_and (C8.pe_mt MH hr (by decide) (pv 0) (pa_cons pe_str pa_nil)) (pe_one (C8.pe_mt MH hr (by decide) (pv 0) (pa_cons pe_str pa_nil))))))), ?_⟩
    obtain ⟨dx, sd, ro, sx, sy, h1, h2, _⟩ := MA.sideAt (pl := .x) (fun z => nomatch z)
    refine ⟨_, rfl, t, G.c.meet, dx, _, _, rfl, h1, T.clM, T.nM3, lM3, _, rfl, ?_⟩
    unfold Mt.over at k
    cases e : M.stuck with
    | true =>
      rw [e] at k
      exact iteT k
    | false =>
      rw [e, Bool.false_or] at k
      refine iteF ⟨_, rfl, t, dx, _, rfl, h1, by kernel_rfl, t, .x, M, Fo, rfl, (fun z => nomatch z), MA, _, rfl, ?_⟩
      change (if M.x.heard = true then _ else _)
      cases e2 : M.x.heard with
      | true =>
        rw [e2, Bool.true_and] at k
        exact iteT ⟨_, rfl, t, dx, _, rfl, h1, by kernel_rfl, t, .y, M, Fo, rfl, (fun z => nomatch z), MA, k⟩
      | false =>
        rw [e2, Bool.false_and] at k
        exact iteF k
theorem ok_mlen {f : Addr} {fd : FuncData} (F : C8.Fun G.K "__len__" "Meeting.__len__" sMlen f fd) (T : Txt G.K mg G.c) :
    FnOk G.P G.w G.K mg base C8.CX0 1 f fd ["self"] (spMlen G) := by
  refine C8.fn0 F scMl (fun vs H Q E h => ?_) (fun cdv A outer s H vs Q E hr h => ?_)
  · obtain ⟨t, M, F, rfl, _⟩ := h
    rfl
  · obtain ⟨t, M, Fo, rfl, MA, k⟩ := h
    refine ⟨_, pss_one (ps_ret (pe_callB call_len_seq (by rfl) T.len PySem.boot_len (pa_cons (pe_fld (pv 0) rfl) pa_nil))), ?_⟩
    obtain ⟨dx, sd, ro, sx, sy, rs, Fx, Fy, e, nd, h1, h2, h3, h4, h5, h6⟩ := MA
    refine ⟨_, rfl, t, G.c.meet, dx, _, _, rfl, h1, T.clM, T.nM2, lM2, ro, _, rfl, .inl (SqL.of h3), ?_⟩
    rw [h4]
    exact k
end
end QD

set_option Elab.async false
set_option linter.all false
set_option maxRecDepth 100000
set_option maxHeartbeats 4000000
/-! name = {k: v for ..}; one side of a meeting; Meeting.__init__ -/
namespace QD
open PySem PySem.Spec PyProof.Rows L2

section
variable {X : Cx}
theorem ps_setDc {i : Nat} {y : Str} {py : Pos} {kx vx tg iter : Expr} {ifs : List Expr} {scope : Scope} {own : List (Str × Nat)} {pos spos : Pos} {wi : TI} {g : TG} {tt : TT} {tk tv : TE} (hc : X.calm = true) (hN : X.N.Nodup) (hy : X.N[i]? = some y) (hyl : X.env.scope.names.lookup y = some .local)
    (hsw : swapsWith (.DictComp kx vx [⟨tg, iter, ifs, 0⟩] scope pos) (some (.Name y py)) spos.line X.env = pure true) (hi : PI X tg iter wi) (ok : BlkOk X.N X.env.scope scope own)
    (hg : ∀ (s : Shared) (H : Hp) (C : Addr) (cl : List (Str × Addr)) (fp : List Addr), PG (X.blk s H scope (compEnvC scope cl C X.env) fp) tg g) (ht : ∀ (s : Shared) (H : Hp) (C : Addr) (cl : List (Str × Addr)) (fp : List Addr), PTs (X.blk s H scope (compEnvC scope cl C X.env) fp) ifs tt)
    (hk : ∀ (s : Shared) (H : Hp) (C : Addr) (cl : List (Str × Addr)) (fp : List Addr), PE (X.blk s H scope (compEnvC scope cl C X.env) fp) kx tk)
    (he : ∀ (s : Shared) (H : Hp) (C : Addr) (cl : List (Str × Addr)) (fp : List Addr), PE (X.blk s H scope (compEnvC scope cl C X.env) fp) vx tv) (hs : ∀ x, foldedSetIterable iter X.env x = pure x := by intro _; rfl) :
    PS X (.Assign [.Name y py] (.DictComp kx vx [⟨tg, iter, ifs, 0⟩] scope pos) spos) (tAsg (tDc wi g tt tk tv (own.map (·.2))) (gName i)) := by
  refine ⟨fun pins s σ H D I h => ?_⟩
  rw [exec_Assign_Name_used _ _ _ _ hsw]
  refine wpAny_bind (wpAny_standAt (wpAny_bind ?_))
  show wpAny _ X.A (do let _ ← comprehension (.DictComp kx vx [⟨tg, iter, ifs, 0⟩] scope pos) scope X.env (firstIterPos [⟨tg, iter, ifs, 0⟩] pos) newDict false (eval iter X.env) (some (assign (.Name y py) X.env))) _ _ s
  have h : tDc wi g tt tk tv (own.map (·.2)) σ H (fun x H1 => gName i x σ H1 D.nx) := h
  refine wpAny_bind (thn (dc_core (Qf := fun _ s' => SP X pins D .next s') hc hN I hi ok hg ht hk he hs h fun L C s' m H' I' q hn f => ?_) fun _ s' hq => wpAny_pure (wpAny_pure hq))
  show wpAny _ _ (assign (.Name y py) X.env (.ref L)) _ _ _
  refine wpAny_assign_Name (store_ok2 (v := V.ref L) I' hN hy (.inl hyl) rfl (fun s2 I2 ⟨a, sb, ha⟩ => ?_) (.inr hyl))
  obtain ⟨f0, f1, f2, f3, f4, f5⟩ := f
  have haC : C ≠ a := by
    rcases ha with z | z
    · rw [z]; exact f1
    · exact fun e => f4 y a z e.symm
  refine ⟨m, hn.sameBut sb haC, fun h3 sb3 => ?_⟩
  exact ⟨_, H', I2.turned (t' := s2.toks) (fun b o hb e => (sb3.2 b hb).trans e) f0 f1 f3 f4 f5, q⟩
theorem sw_trueD {kx vx : Expr} {gs : List Comprehension} {scope : Scope} {pos py : Pos} {y : Str} {l : Nat} {env : Env} (hk : env.scope.kind = .function) (hy : env.scope.names.lookup y = some .local) (hl : (py.line == pos.line) = true)
    (ha : (scope.names.any fun (n, k) => n == y && (k == .local || k == .cell)) = false) : swapsWith (.DictComp kx vx gs scope pos) (some (.Name y py)) l env = pure true := by
  have ky : env.kindOf y = some .local := hy
  have hb : env.blockKind = .function := by unfold Env.blockKind; rw [hk]; rfl
  unfold swapsWith
  simp only [hb, ky, ha, Expr.pos, hl]
  rfl
end

section
variable {G : Gx} {mg : Str → Option Value} {base : Heap}
/-- one side, read or changed alone -/
theorem MtAt.one {H : Hp} {t : Addr} {M : Mt} {F : List Addr} (h : MtAt G H t M F) {pl : Pl} (hp : pl ≠ .h) : ∃ (dx sd ro sx sy : Addr), H t = some (.ins G.c.meet dx (fM sd ro M.stuck)) ∧ H sd = some (.dK [(.inr "x", .ref sx), (.inr "y", .ref sy)]) ∧
    ∃ Fs, SdAt G H (pick pl sx sy) pl (M.side pl) Fs ∧ (∀ b ∈ Fs, b ∈ F) ∧ ∀ (H' : Hp) (m' : Sd) (Fs' : List Addr), Keep Fs H H' → Grow Fs Fs' H → Fs'.Nodup → SdAt G H' (pick pl sx sy) pl m' Fs' → ∃ F', Grow F F' H ∧ MtAt G H' t (M.put pl m') F' := by
  obtain ⟨dx, sd, ro, sx, sy, rs, Fx, Fy, eF, nd, h1, h2, h3, h4, h5, h6⟩ := h
  refine ⟨dx, sd, ro, sx, sy, h1, h2, ?_⟩
  have nd0 := nd
  rw [eF] at nd0
  simp only [List.nodup_cons, List.mem_cons, not_or, List.mem_append, List.nodup_append] at nd0
  obtain ⟨⟨n1, n2, n3, n4⟩, ⟨n5, n6, n7⟩, ⟨n8, n9⟩, n10, n11, n12⟩ := nd0
  have some_ : ∀ {Fs Fs' : List Addr} {b : Addr}, Grow Fs Fs' H → (∃ o, H b = some o) → b ∉ Fs → b ∉ Fs' := fun {Fs Fs' b} g ⟨o, e⟩ hb m => by
    rcases g b m with q | q
    · exact hb q
    · rw [e] at q; cases q
  cases pl with
  | x =>
    refine ⟨Fx, h5, fun b hb => by rw [eF]; simp [hb], fun H' m' Fs' k g nd' S => ?_⟩
    have dj : ∀ b ∈ Fy, b ∉ Fx := fun b hb z => n12 b z b hb rfl
    have S2 : SdAt G H' sy .y M.y Fy := k.sd dj h6
    refine ⟨t :: sd :: ro :: (Fs' ++ Fy), ?_, dx, sd, ro, sx, sy, rs, Fs', Fy, rfl, ?_, k.old _ _ h1 (.inl n3), k.old _ _ h2 (.inl n6), k.old _ _ h3 (.inl n8), h4, S, S2⟩
    · intro b hb
      simp only [List.mem_cons, List.mem_append] at hb
      rcases hb with rfl | rfl | rfl | hb | hb
      · exact .inl (by rw [eF]; simp)
      · exact .inl (by rw [eF]; simp)
      · exact .inl (by rw [eF]; simp)
      · exact (g b hb).imp (fun z => by rw [eF]; simp [z]) id
      · exact .inl (by rw [eF]; simp [hb])
    · simp only [List.nodup_cons, List.mem_cons, not_or, List.mem_append, List.nodup_append]
      refine ⟨⟨n1, n2, some_ g ⟨_, h1⟩ n3, n4⟩, ⟨n5, some_ g ⟨_, h2⟩ n6, n7⟩, ⟨some_ g ⟨_, h3⟩ n8, n9⟩, nd', n11, ?_⟩
      rintro a ha b hb rfl
      obtain ⟨o, e, _⟩ := h6.own a hb
      exact some_ g ⟨o, e⟩ (dj a hb) ha
  | y =>
    refine ⟨Fy, h6, fun b hb => by rw [eF]; simp [hb], fun H' m' Fs' k g nd' S => ?_⟩
    have dj : ∀ b ∈ Fx, b ∉ Fy := fun b hb z => n12 b hb b z rfl
    have S2 : SdAt G H' sx .x M.x Fx := k.sd dj h5
    refine ⟨t :: sd :: ro :: (Fx ++ Fs'), ?_, dx, sd, ro, sx, sy, rs, Fx, Fs', rfl, ?_, k.old _ _ h1 (.inl n4), k.old _ _ h2 (.inl n7), k.old _ _ h3 (.inl n9), h4, S2, S⟩
    · intro b hb
      simp only [List.mem_cons, List.mem_append] at hb
      rcases hb with rfl | rfl | rfl | hb | hb
      · exact .inl (by rw [eF]; simp)
      · exact .inl (by rw [eF]; simp)
      · exact .inl (by rw [eF]; simp)
      · exact .inl (by rw [eF]; simp [hb])
      · exact (g b hb).imp (fun z => by rw [eF]; simp [z]) id
    · simp only [List.nodup_cons, List.mem_cons, not_or, List.mem_append, List.nodup_append]
      refine ⟨⟨n1, n2, n3, some_ g ⟨_, h1⟩ n4⟩, ⟨n5, n6, some_ g ⟨_, h2⟩ n7⟩, ⟨n8, some_ g ⟨_, h3⟩ n9⟩, n10, nd', ?_⟩
      rintro a ha b hb rfl
      obtain ⟨o, e, _⟩ := h5.own a ha
      exact some_ g ⟨o, e⟩ (dj a ha) hb
  | h => exact absurd rfl hp
theorem SdAt.nodup {H : Hp} {s : Addr} {pl : Pl} {m : Sd} {F : List Addr} (h : SdAt G H s pl m F) : F.Nodup := by
  obtain ⟨_, _, _, _, _, _, nd, _⟩ := h
  exact nd
theorem SdAt.obj {H : Hp} {s : Addr} {pl : Pl} {m : Sd} {F : List Addr} (h : SdAt G H s pl m F) : ∃ dx pst al, H s = some (.ins G.c.side dx (fS pl pst al m.heard)) := by
  obtain ⟨dxs, pst, p, al, _, _, _, h1, _⟩ := h
  exact ⟨dxs, pst, al, h1⟩
theorem no_sent {pl : Pl} {a b : Addr} {k : Bool} : (fS pl a b k).lookup ("sent" : Str) = none := by kernel_rfl
theorem no_learns {pl : Pl} {a b : Addr} {k : Bool} : (fS pl a b k).lookup ("learns" : Str) = none := by kernel_rfl
theorem no_lets {pl : Pl} {a b : Addr} {k : Bool} : (fS pl a b k).lookup ("lets_in" : Str) = none := by kernel_rfl
theorem getx {sx sy : Addr} : valV ([(.inr "x", .ref sx), (.inr "y", .ref sy)] : List (Key × V)) (.inr "x") = some (.ref sx) := by kernel_rfl
theorem gety {sx sy : Addr} : valV ([(.inr "x", .ref sx), (.inr "y", .ref sy)] : List (Key × V)) (.inr "y") = some (.ref sy) := by kernel_rfl
theorem merge2 {sx sy : V} : mergeK [] [((.inr "x" : Key), sx), (.inr "y", sy)] = [(.inr "x", sx), (.inr "y", sy)] := by kernel_rfl
theorem put1 {v : V} : putK ([] : List (Key × V)) (.inr (Pl.s .x)) v = [(.inr "x", v)] := by kernel_rfl
theorem put2 {v u : V} : putK ([(.inr "x", v)] : List (Key × V)) (.inr (Pl.s .y)) u = [(.inr "x", v), (.inr "y", u)] := by kernel_rfl

theorem Grow.not {F F' : List Addr} {H : Hp} {D : Addr} {o : HO} (g : Grow F F' H) (n : D ∉ F) (e : H D = some o) : D ∉ F' := fun m => by
  rcases g D m with q | q
  · exact n q
  · rw [e] at q; cases q
/-- self.sides[place].sent(address) -/
theorem rd_sent {t a0 : Addr} {pl : Pl} {M : Mt} {m' : Sd} {n : Nat} {F : List Addr} {ad : Ad} {σ : L2.St} {i : Nat} {ta : TA} {H : Hp} {Q : VK} (T : Txt G.K mg G.c) (h0 : σ[0]? = some (some (.ref t))) (hi : σ[i]? = some (some (.str pl.s))) (harg : ∀ R : List V → Hp → Prop, R [.ref a0] H → ta σ H R)
    (MA : MtAt G H t M F) (hpl : pl ≠ .h) (hA : AdAt G.K H a0 ad) (hs : (M.side pl).send ad = some (m', n))
    (k : ∀ (H' : Hp) (F' : List Addr) (a' : Addr), Keep F H H' → Grow F F' H → MtAt G H' t (M.put pl m') F' → AdAt G.K H' a' (pl, n) → Q (.ref a') H') :
    tMeth G.c.side "sent" (spSSent G) [] C8.E0 (tDGet (tFld G.K (tVar 0) "sides") (tVar i)) ta σ H Q := by
  obtain ⟨dx, sd, ro, sx, sy, h1, h2, Fs, SA, sub, up⟩ := MA.one hpl
  obtain ⟨dxs, pst, al, hso⟩ := SA.obj
  refine ⟨_, h0, t, G.c.meet, dx, _, _, rfl, h1, T.clM, T.nM1, lM1, _, hi, sd, _, rfl, ?_, pick pl sx sy, dxs, _, rfl, hso, no_sent, harg _ ⟨pick pl sx sy, a0, ad, pl, M.side pl, m', n, Fs, rfl, SA, hA, hs, fun H' Fs' a' kp g SA' hA' => ?_⟩⟩
  · rw [← side_get hpl]
    exact DGet.k (k := .inr pl.s) h2
  · obtain ⟨F', g', MA'⟩ := up H' m' Fs' kp g SA'.nodup SA'
    exact k H' F' a' (kp.mono sub) g' MA' hA'
theorem new_some {q r : Gv × Lt} {M : Mt} (h : Mt.new q r = some M) : ∃ sx nx sy ny sx' bx sy' by_, (Sd.new q).send (.h, 0) = some (sx, nx) ∧ (Sd.new r).send (.h, 0) = some (sy, ny) ∧ sx.learn (.y, ny) = some (sx', bx) ∧ sy.learn (.x, nx) = some (sy', by_) ∧ M = ⟨sx', sy', 0, false⟩ := by
  unfold Mt.new at h
  cases e1 : (Sd.new q).send (.h, 0) with
  | none => simp only [e1] at h; cases h
  | some p =>
    obtain ⟨sx, nx⟩ := p
    simp only [e1] at h
    cases e2 : (Sd.new r).send (.h, 0) with
    | none => simp only [e2] at h; cases h
    | some p =>
      obtain ⟨sy, ny⟩ := p
      simp only [e2] at h
      cases e3 : sx.learn (.y, ny) with
      | none => simp only [e3] at h; cases h
      | some p =>
        obtain ⟨sx', bx⟩ := p
        simp only [e3] at h
        cases e4 : sy.learn (.x, nx) with
        | none => simp only [e4] at h; cases h
        | some p =>
          obtain ⟨sy', by_⟩ := p
          simp only [e4, Option.some.injEq] at h
          exact ⟨sx, nx, sy, ny, sx', bx, sy', by_, rfl, rfl, e3, e4, h.symm⟩
def spMeetI (G : Gx) : Sp := fun vs H Q _ => ∃ (t dx ex ey : Addr) (q r : Gv × Lt) (M : Mt), vs = [.ref t, .ref ex, .ref ey] ∧ H t = some (.ins G.c.meet dx []) ∧ EndAt G H ex q ∧ EndAt G H ey r ∧ Mt.new q r = some M ∧
  ∀ (H' : Hp) (F' : List Addr), Keep [t] H H' → (∀ b ∈ F', b = t ∨ H b = none) → MtAt G H' t M F' → Q .non H'
theorem scMI : FnScope ["self", "x", "y", "seen", "place"] ["self", "x", "y"] (C8.fnScope sMeetI) := C8.fnScope_by (by decide +kernel)
theorem ok_meetI {f : Addr} {fd : FuncData} (F : C8.Fun G.K "__init__" "Meeting.__init__" sMeetI f fd) (T : Txt G.K mg G.c) (MI : C8.Mak G.P G.w G.K mg base 3 "Side" G.c.side (spSideI G) [])
    (MS : C8.Met G.P G.w G.K mg base 4 G.c.side "sent" (spSSent G) []) (ML : C8.Met G.P G.w G.K mg base 1 G.c.side "learns" (spLearns G) []) :
    FnOk G.P G.w G.K mg base C8.CX0 5 f fd ["self", "x", "y"] (spMeetI G) := by
  refine C8.fn0 F scMI (fun vs H Q E h => ?_) (fun cdv A outer s H vs Q E hr h => ?_)
  · obtain ⟨t, dx, ex, ey, q, r, M, rfl, _⟩ := h
    rfl
  · obtain ⟨t, dx, ex, ey, q, r, M, rfl, ht, hex, hey, hM, k⟩ := h
    have hu := hu_of hr
    refine ⟨_, pss_cons (ps_if (pt_not (pt_val (pe_callB (C8.call_isC T.icE) (by rfl) T.isinstance (by decide +kernel) (pa_cons (pv 1) (pa_cons (C8.pe_gc (v := .ref G.c.end_) rfl ⟨_, T.mgE, rfl⟩) pa_nil))))) (pss_one ps_never) pss_nil)
      (pss_cons (ps_if (pt_not (pt_val (pe_callB (C8.call_isC T.icE) (by rfl) T.isinstance (by decide +kernel) (pa_cons (pv 2) (pa_cons (C8.pe_gc (v := .ref G.c.end_) rfl ⟨_, T.mgE, rfl⟩) pa_nil))))) (pss_one ps_never) pss_nil)
      (pss_cons (ps_fld (pv 0) (pe_disp (pps_cons pe_str (C8.pe_mk MI hr (by decide) (by rfl) (pa_cons (pv 1) (pa_cons pe_str pa_nil))) (pps_cons pe_str (C8.pe_mk MI hr (by decide) (by rfl) (pa_cons (pv 2) (pa_cons pe_str pa_nil))) pps_nil)) (by rfl) (by rfl) (fun z => by cases z) (by decide)) rfl)
      (pss_cons (ps_fld (pv 0) (pe_lst pa_nil) rfl)
      (C8.pss_cut (ps_fld (pv 0) pe_bl rfl)
      (C8.pss_cut (ps_setDc (i := 3) (own := [("place", 4)]) (g := gName 4) (tt := tYes) rfl scMI.nd rfl rfl (sw_trueD rfl rfl rfl (by decide +kernel)) (pi_tup (C8.pe_gc (v := .ref T.places.choose) rfl ⟨_, T.places.choose_spec.1, rfl⟩))
          (blkOk_by (own := [("place", 4)]) (N := ["self", "x", "y", "seen", "place"]) (sc := C8.fnScope sMeetI) (by decide +kernel))
          (fun _ _ _ _ _ => pg_name (i := 4) scMI.nd rfl (.inl rfl)) (fun _ _ _ _ _ => pts_nil) (fun _ _ _ _ _ => pv 4)
          (fun _ _ _ _ _ => C8.pe_mt MS hr (by decide) (pe_dget hu (show PE _ _ (tFld G.K (tVar 0) "sides") from pe_fld (pv 0) rfl) (pv 4) (fun _ _ => rfl)) (pa_cons (C8.pe_gc (v := .ref T.house.choose) rfl ⟨_, T.house.choose_spec.1, rfl⟩) pa_nil)))
      (pss_cons (ps_expr (C8.pe_mt ML hr (by decide) (pe_dget hu (pe_fld (pv 0) rfl) pe_str (fun _ _ => rfl)) (pa_cons (pe_dget hu (pv 3) pe_str (fun _ _ => rfl)) pa_nil)))
      (pss_one (ps_expr (C8.pe_mt ML hr (by decide) (pe_dget hu (pe_fld (pv 0) rfl) pe_str (fun _ _ => rfl)) (pa_cons (pe_dget hu (pv 3) pe_str (fun _ _ => rfl)) pa_nil)))))))))), ?_⟩
    obtain ⟨dex, tx, dox, hx1, hx2⟩ := id hex
    obtain ⟨dey, ty, doy, hy1, hy2⟩ := id hey
    refine ⟨_, rfl, ex, dex, _, rfl, hx1, _, rfl, ?_⟩
    refine iteF ⟨_, rfl, ey, dey, _, rfl, hy1, _, rfl, ?_⟩
    refine iteF ?_
    -- self.sides = {"x": Side(x, "x"), "y": Side(y, "y")}
    intro sd hsd
    have ka : Keep [] H (upd H sd (HO.dK [])) := Keep.new hsd _
    generalize hHa : upd H sd (HO.dK []) = Ha at ka
    have sda : Ha sd = some (.dK []) := by rw [← hHa]; exact upd_same
    refine ⟨_, rfl, ?_⟩
    intro sx dsx nsx ndsx nesx
    have km1 : Keep [] Ha (upd (upd Ha dsx (.own sx)) sx (.ins G.c.side dsx [])) := Keep.made nsx ndsx nesx
    refine ⟨sx, dsx, ex, q, .x, rfl, upd_same, km1.endAt (ka.endAt hex), fun H2 Fx k2 frx SX => ⟨rfl, ?_⟩⟩
    have fx : ∀ b ∈ Fx, Ha b = none := fun b hb => by
      rcases frx b hb with rfl | z
      · exact nsx
      · exact km1.dom b z
    have kx : Keep [] Ha H2 := by
      refine ⟨fun b o e _ => k2.old b o (km1.old b o e (.inl fun z => nomatch z)) (.inl ?_), fun b e => km1.dom b (k2.dom b e)⟩
      simp only [List.mem_singleton]
      exact ne_of_none e nsx
    refine ⟨_, rfl, ?_⟩
    intro sy dsy nsy ndsy nesy
    have km2 : Keep [] H2 (upd (upd H2 dsy (.own sy)) sy (.ins G.c.side dsy [])) := Keep.made nsy ndsy nesy
    refine ⟨sy, dsy, ey, r, .y, rfl, upd_same, km2.endAt (kx.endAt (ka.endAt hey)), fun H3 Fy k3 fry SY => ⟨rfl, ?_⟩⟩
    have fy : ∀ b ∈ Fy, H2 b = none := fun b hb => by
      rcases fry b hb with rfl | z
      · exact nsy
      · exact km2.dom b z
    have ky : Keep [] H2 H3 := by
      refine ⟨fun b o e _ => k3.old b o (km2.old b o e (.inl fun z => nomatch z)) (.inl ?_), fun b e => km2.dom b (k3.dom b e)⟩
      simp only [List.mem_singleton]
      exact ne_of_none e nsy
    have sd3 : H3 sd = some (.dK []) := ky.old _ _ (kx.old _ _ sda (.inl fun z => nomatch z)) (.inl fun z => nomatch z)
    refine ⟨sd3, [(.inr "x", .ref sx), (.inr "y", .ref sy)], rfl, (by show 2 ≤ 15; decide), ?_⟩
    rw [merge2]
    have nts : t ≠ sd := ne_of_none ht hsd
    have k03 : Keep [] H H3 := (ka.tr kx).tr ky
    have t3 : H3 t = some (.ins G.c.meet dx []) := k03.old _ _ ht (.inl fun z => nomatch z)
    refine ⟨_, rfl, t, G.c.meet, dx, [], rfl, (by rw [upd_ne nts]; exact t3), T.clM, T.nM1, (by show 0 < 1000; decide), ?_⟩
    generalize hH4 : upd (upd H3 sd (HO.dK [(Sum.inr (Str.ofString "x"), V.ref sx), (Sum.inr (Str.ofString "y"), V.ref sy)])) t (HO.ins G.c.meet dx (putF "sides" (V.ref sd) [])) = H4
    have k4 : Keep [t] H H4 := by rw [← hH4]; exact PI_keep (k03.of0.updNew hsd _) ht npur0 _
    have t4 : H4 t = some (HO.ins G.c.meet dx (putF "sides" (V.ref sd) [])) := by rw [← hH4]; exact upd_same
    have sd4 : H4 sd = some (HO.dK [(Sum.inr (Str.ofString "x"), V.ref sx), (Sum.inr (Str.ofString "y"), V.ref sy)]) := by rw [← hH4, upd_ne nts.symm]; exact upd_same
    -- self.own_rounds = []
    refine ⟨Nat.zero_le _, fun ro hro => ?_⟩
    have ntr : t ≠ ro := ne_of_none t4 hro
    have nsr : sd ≠ ro := ne_of_none sd4 hro
    refine ⟨_, rfl, t, G.c.meet, dx, _, rfl, (by rw [upd_ne ntr]; exact t4), T.clM, T.nM2, (by show 1 < 1000; decide), ?_⟩
    generalize hH5 : upd (upd H4 ro (HO.lst [])) t (HO.ins G.c.meet dx (putF "own_rounds" (V.ref ro) (putF "sides" (V.ref sd) []))) = H5
    have k5 : Keep [t] H H5 := by rw [← hH5]; exact PI_keep (k4.updNew (k4.dom _ hro) _) ht npur0 _
    have t5 : H5 t = some (HO.ins G.c.meet dx (putF "own_rounds" (V.ref ro) (putF "sides" (V.ref sd) []))) := by rw [← hH5]; exact upd_same
    -- self.is_stuck = False
    refine ⟨fun σ' H' => σ' = [some (.ref t), some (.ref ex), some (.ref ey), none, none] ∧ ∃ F, Keep [t] H H' ∧ (∀ b ∈ F, b = t ∨ H b = none) ∧ MtAt G H' t ⟨Sd.new q, Sd.new r, 0, false⟩ F, ?_, ?_⟩
    · have ef : putF "is_stuck" (V.bl false) (putF "own_rounds" (V.ref ro) (putF "sides" (V.ref sd) [])) = fM sd ro false := by kernel_rfl
      refine ⟨_, rfl, t, G.c.meet, dx, _, rfl, t5, T.clM, T.nM3, (by show 2 < 1000; decide), ?_⟩
      rw [ef]
      have k6 : Keep [t] H (upd H5 t (HO.ins G.c.meet dx (fM sd ro false))) := PI_keep k5 ht npur0 _
      have fx0 : ∀ b ∈ Fx, H b = none := fun b hb => ka.dom b (fx b hb)
      have fy0 : ∀ b ∈ Fy, H b = none := fun b hb => (ka.tr kx).dom b (fy b hb)
      have tnx : t ∉ Fx := fun z => by
        have := fx0 t z
        rw [ht] at this; cases this
      have tny : t ∉ Fy := fun z => by
        have := fy0 t z
        rw [ht] at this; cases this
      have snx : sd ∉ Fx := fun z => by
        have := fx sd z
        rw [sda] at this; cases this
      have sny : sd ∉ Fy := fun z => by
        have := kx.dom _ (fy sd z)
        rw [sda] at this; cases this
      -- what happened behind H3
      have k36 : Keep [sd, t] H3 (upd H5 t (HO.ins G.c.meet dx (fM sd ro false))) := by
        have a1 : Keep [sd, t] H3 H4 := by
          rw [← hH4]
          refine (Keep.upd (by simp) sd3 id _).tr (Keep.upd (by simp) (by rw [upd_ne nts]; exact t3) npur0 _)
        have a2 : Keep [sd, t] H4 H5 := by
          rw [← hH5]
          refine (Keep.new hro _).tr (Keep.upd (by simp) (by rw [upd_ne ntr]; exact t4) (npur_of (by kernel_rfl) (by kernel_rfl) (by kernel_rfl)) _)
        exact (a1.tr a2).tr (Keep.upd (by simp) t5 (npur_of (by kernel_rfl) (by kernel_rfl) (by kernel_rfl)) _)
      have SX3 : SdAt G H3 sx .x (Sd.new q) Fx := ky.sd (fun _ _ z => nomatch z) SX
      have SX6 := k36.sd (fun b hb z => by
        simp only [List.mem_cons, List.not_mem_nil, or_false] at z
        rcases z with rfl | rfl
        · exact snx hb
        · exact tnx hb) SX3
      have SY6 := k36.sd (fun b hb z => by
        simp only [List.mem_cons, List.not_mem_nil, or_false] at z
        rcases z with rfl | rfl
        · exact sny hb
        · exact tny hb) SY
      have ron : ∀ b, (∃ o, H3 b = some o) → b ≠ ro := fun b ⟨o, e⟩ z => by
        have e4 : H4 b ≠ none := by
          intro e5
          rw [← hH4] at e5
          by_cases z1 : b = t
          · subst z1; rw [upd_same] at e5; cases e5
          · rw [upd_ne z1] at e5
            by_cases z2 : b = sd
            · subst z2; rw [upd_same] at e5; cases e5
            · rw [upd_ne z2, e] at e5; cases e5
        rw [z] at e4
        exact e4 hro
      refine ⟨rfl, t :: sd :: ro :: (Fx ++ Fy), k6, ?_, dx, sd, ro, sx, sy, [], Fx, Fy, rfl, ?_, upd_same, ?_, ?_, rfl, SX6, SY6⟩
      · intro b hb
        simp only [List.mem_cons, List.mem_append] at hb
        rcases hb with rfl | rfl | rfl | hb | hb
        · exact .inl rfl
        · exact .inr hsd
        · exact .inr (k4.dom _ hro)
        · exact .inr (fx0 b hb)
        · exact .inr (fy0 b hb)
      · simp only [List.nodup_cons, List.mem_cons, not_or, List.mem_append, List.nodup_append]
        refine ⟨⟨nts, ntr, tnx, tny⟩, ⟨nsr, snx, sny⟩, ⟨fun z => ?_, fun z => ?_⟩, SX6.nodup, SY6.nodup, ?_⟩
        · obtain ⟨o, e, _⟩ := SX3.own ro z
          exact ron ro ⟨o, e⟩ rfl
        · obtain ⟨o, e, _⟩ := SY.own ro z
          exact ron ro ⟨o, e⟩ rfl
        · rintro a ha b hb rfl
          obtain ⟨o, e, _⟩ := SX.own a ha
          have := fy a hb
          rw [e] at this; cases this
      · rw [upd_ne nts.symm, ← hH5, upd_ne nts.symm, upd_ne nsr]; exact sd4
      · rw [upd_ne ntr.symm, ← hH5, upd_ne ntr.symm]; exact upd_same
    · rintro σ7 H7 ⟨rfl, F7, k7, f7, MA7⟩
      clear hHa hH4 hH5 ka sda km1 km2 k2 k3 kx ky SX SY frx fry fx fy sd3 k03 t3 k4 t4 sd4 k5 t5
      obtain ⟨sx', nx, sy', ny, sx2, bx, sy2, by_, hsx, hsy, hlx, hly, rfl⟩ := new_some hM
      have hA : AdAt G.K H7 T.house.choose (.h, 0) := T.house.choose_spec.2.sq
      -- seen = {place: self.sides[place].sent(HOUSE) for place in PLACES}
      refine ⟨fun σ' H' => ∃ D F ax ay, σ' = [some (.ref t), some (.ref ex), some (.ref ey), some (.ref D), none] ∧ Keep [t] H H' ∧ (∀ b ∈ F, b = t ∨ H b = none) ∧ MtAt G H' t ⟨sx', sy', 0, false⟩ F ∧
        H' D = some (.dK [(.inr "x", .ref ax), (.inr "y", .ref ay)]) ∧ D ∉ F ∧ AdAt G.K H' ax (.x, nx) ∧ AdAt G.K H' ay (.y, ny), ?_, ?_⟩
      · refine ⟨T.places.choose, rfl, ⟨_, T.places.choose_spec.2.sq⟩, fun D hD => ?_⟩
        have hD0 : H D = none := k7.dom _ hD
        refine dc_tup (K := G.K) (a := T.places.choose) (xs := [.str "x", .str "y"]) (fun i H' => Keep [t] H H' ∧ ∃ F M' kvs, (∀ b ∈ F, b = t ∨ H b = none) ∧ MtAt G H' t M' F ∧ H' D = some (.dK kvs) ∧ D ∉ F ∧ (match i with
          | 0 => M' = ⟨Sd.new q, Sd.new r, 0, false⟩ ∧ kvs = []
          | 1 => ∃ ax, M' = ⟨sx', Sd.new r, 0, false⟩ ∧ kvs = [(.inr "x", .ref ax)] ∧ AdAt G.K H' ax (.x, nx)
          | _ => ∃ ax ay, M' = ⟨sx', sy', 0, false⟩ ∧ kvs = [(.inr "x", .ref ax), (.inr "y", .ref ay)] ∧ AdAt G.K H' ax (.x, nx) ∧ AdAt G.K H' ay (.y, ny))) ?_ (fun i H' _ _ => T.places.choose_spec.2.sq) ?_ ?_
        · have kD : Keep [] H7 (upd H7 D (.dK [])) := Keep.new hD _
          refine ⟨k7.tr0 kD, F7, _, _, f7, kD.mt (fun _ _ z => nomatch z) MA7, upd_same, fun z => ?_, rfl, rfl⟩
          obtain ⟨o, e, _⟩ := MA7.own D z
          rw [hD] at e; cases e
        · rintro i x H' hx ⟨kp, F, M', kvs, fr, MA, hDk, nD, hP⟩
          match i, hx, hP with
          | 0, hx, hP =>
            obtain ⟨rfl, rfl⟩ := hP
            have hx : V.str "x" = x := Option.some.inj hx
            subst hx
            refine ⟨rfl, ?_⟩
            simp only [tYes, ↓reduceIte]
            refine ⟨_, rfl, rd_sent (pl := .x) T rfl rfl (fun _ z => z) MA (fun z => nomatch z) (ad := (.h, 0)) T.house.choose_spec.2.sq hsx fun H2 F2 ax k2 g2 MA2 hax => ?_⟩
            have hD2 : H2 D = some (.dK []) := k2.old _ _ hDk (.inl nD)
            have nD2 : D ∉ F2 := g2.not nD hDk
            refine ⟨[], .inr (Pl.s .x), rfl, hD2, by decide, ?_⟩
            rw [put1]
            have kD : Keep [D] H2 (upd H2 D (.dK [(.inr "x", .ref ax)])) := Keep.upd (by simp) hD2 id _
            have k12 : Keep [t] H H2 := kp.trans k2 fun b hb => (fr b hb).imp (fun z => by simp [z]) id
            refine ⟨k12.updNew hD0 _, F2, _, _, fun b hb => ?_, kD.mt (fun b hb z => nD2 (by simp at z; subst z; exact hb)) MA2, upd_same, nD2, ax, rfl, rfl, kD.adAt (G := G) hax⟩
            rcases g2 b hb with z | z
            · exact fr b z
            · exact .inr (kp.dom b z)
          | 1, hx, hP =>
            obtain ⟨ax, rfl, rfl, hax⟩ := hP
            have hx : V.str "y" = x := Option.some.inj hx
            subst hx
            refine ⟨rfl, ?_⟩
            simp only [tYes, ↓reduceIte]
            refine ⟨_, rfl, rd_sent (pl := .y) T rfl rfl (fun _ z => z) MA (fun z => nomatch z) (ad := (.h, 0)) T.house.choose_spec.2.sq hsy fun H2 F2 ay k2 g2 MA2 hay => ?_⟩
            have hD2 : H2 D = some (.dK [(.inr "x", .ref ax)]) := k2.old _ _ hDk (.inl nD)
            have nD2 : D ∉ F2 := g2.not nD hDk
            refine ⟨[(.inr "x", .ref ax)], .inr (Pl.s .y), rfl, hD2, (by show 1 < sizeLine; decide), ?_⟩
            rw [put2]
            have kD : Keep [D] H2 (upd H2 D (.dK [(.inr "x", .ref ax), (.inr "y", .ref ay)])) := Keep.upd (by simp) hD2 id _
            have k12 : Keep [t] H H2 := kp.trans k2 fun b hb => (fr b hb).imp (fun z => by simp [z]) id
            refine ⟨k12.updNew hD0 _, F2, _, _, fun b hb => ?_, kD.mt (fun b hb z => nD2 (by simp at z; subst z; exact hb)) MA2, upd_same, nD2, ax, ay, rfl, rfl, kD.adAt (G := G) (k2.adAt (G := G) hax), kD.adAt (G := G) hay⟩
            rcases g2 b hb with z | z
            · exact fr b z
            · exact .inr (kp.dom b z)
          | i + 2, hx, _ => simp at hx
        · rintro H' ⟨kp, F, M', kvs, fr, MA, hDk, nD, ax, ay, rfl, rfl, hax, hay⟩
          exact ⟨D, F, ax, ay, rfl, kp, fr, MA, hDk, nD, hax, hay⟩
      · rintro σ8 H8 ⟨D, F8, ax, ay, rfl, k8, f8, MA8, hD8, nD8, hax, hay⟩
        -- self.sides["x"].learns(seen["y"])
        obtain ⟨dx1, sd1, ro1, sx1, sy1, a1, a2, Fs1, SA1, sub1, up1⟩ := MA8.one (pl := .x) (fun z => nomatch z)
        obtain ⟨dxs1, pst1, al1, hso1⟩ := SA1.obj
        refine ⟨_, rfl, t, G.c.meet, dx1, _, _, rfl, a1, T.clM, T.nM1, lM1, sd1, _, rfl, by rw [← getx]; exact DGet.k (k := .inr "x") a2, pick .x sx1 sy1, dxs1, _, rfl, hso1, no_learns,
          _, rfl, D, _, rfl, by rw [← gety]; exact DGet.k (k := .inr "y") hD8, pick .x sx1 sy1, ay, (.y, ny), .x, sx', sx2, bx, Fs1, rfl, SA1, hay, hlx, fun H9 k9 SA9 => ?_⟩
        obtain ⟨F9, g9, MA9⟩ := up1 H9 sx2 Fs1 k9 Grow.refl SA9.nodup SA9
        have k89 : Keep [t] H H9 := k8.trans (k9.mono sub1) fun b hb => (f8 b hb).imp (fun z => by simp [z]) id
        have f9 : ∀ b ∈ F9, b = t ∨ H b = none := fun b hb => by
          rcases g9 b hb with z | z
          · exact f8 b z
          · exact .inr (k8.dom b z)
        have hD9 : H9 D = some (.dK [(.inr "x", .ref ax), (.inr "y", .ref ay)]) := k9.old _ _ hD8 (.inl fun z => nD8 (sub1 D z))
        -- self.sides["y"].learns(seen["x"])
        obtain ⟨dx2, sd2, ro2, sx3, sy3, b1, b2, Fs2, SA2, sub2, up2⟩ := MA9.one (pl := .y) (fun z => nomatch z)
        obtain ⟨dxs2, pst2, al2, hso2⟩ := SA2.obj
        refine ⟨_, rfl, t, G.c.meet, dx2, _, _, rfl, b1, T.clM, T.nM1, lM1, sd2, _, rfl, by rw [← gety]; exact DGet.k (k := .inr "y") b2, pick .y sx3 sy3, dxs2, _, rfl, hso2, no_learns,
          _, rfl, D, _, rfl, by rw [← getx]; exact DGet.k (k := .inr "x") hD9, pick .y sx3 sy3, ax, (.x, nx), .y, sy', sy2, by_, Fs2, rfl, SA2, k9.adAt (G := G) hax, hly, fun H10 k10 SA10 => ?_⟩
        obtain ⟨F10, g10, MA10⟩ := up2 H10 sy2 Fs2 k10 Grow.refl SA10.nodup SA10
        refine k H10 F10 (k89.trans (k10.mono sub2) fun b hb => (f9 b hb).imp (fun z => by simp [z]) id) (fun b hb => ?_) MA10
        rcases g10 b hb with z | z
        · exact f9 b z
        · exact .inr (k89.dom b z)
end
end QD

set_option Elab.async false
set_option linter.all false
set_option maxRecDepth 100000
set_option maxHeartbeats 4000000
/-! Meeting.round, its first loops: the letters are sent -/
namespace QD
open PySem PySem.Spec PyProof.Rows L2

def PrAt (K : PySem.W.Frag) (H : Hp) (p : Addr) (z : Ad × Ad) : Prop := ∃ o a, SqT K H p [.ref o, .ref a] ∧ AdAt K H o z.1 ∧ AdAt K H a z.2
def LetAt (K : PySem.W.Frag) (H : Hp) (D : Addr) (L : List (Ad × Ad)) : Prop := ∃ ps : List Addr, H D = some (.lst (ps.map V.ref)) ∧ Paired (PrAt K H) ps L
section
variable {G : Gx} {mg : Str → Option Value} {base : Heap}
theorem Keep.prAt {Fk : List Addr} {H H' : Hp} {K : PySem.W.Frag} {p : Addr} {z : Ad × Ad} (k : Keep Fk H H') (h : PrAt K H p z) : PrAt K H' p z := by
  obtain ⟨o, a, h1, h2, h3⟩ := h
  exact ⟨o, a, k.sqt h1, k.sqt h2, k.sqt h3⟩
theorem Keep.prAts {Fk : List Addr} {H H' : Hp} {K : PySem.W.Frag} (k : Keep Fk H H') : ∀ {ps : List Addr} {L : List (Ad × Ad)}, Paired (PrAt K H) ps L → Paired (PrAt K H') ps L
  | _, _, .nil => .nil
  | _, _, .cons r t => .cons (k.prAt r) (k.prAts t)
theorem Keep.letAt {Fk : List Addr} {H H' : Hp} {K : PySem.W.Frag} {D : Addr} {L : List (Ad × Ad)} (k : Keep Fk H H') (n : D ∉ Fk) (h : LetAt K H D L) : LetAt K H' D L := by
  obtain ⟨ps, h1, h2⟩ := h
  exact ⟨ps, k.old _ _ h1 (.inl n), k.prAts h2⟩
theorem put_put {M : Mt} {pl : Pl} {a b : Sd} : (M.put pl a).put pl b = M.put pl b := by
  cases pl <;> rfl
theorem put_side {M : Mt} {pl : Pl} {a : Sd} (h : pl ≠ .h) : (M.put pl a).side pl = a := by
  cases pl with
  | x => rfl
  | y => rfl
  | h => exact absurd rfl h
theorem put_self {M : Mt} {pl : Pl} (h : pl ≠ .h) : M.put pl (M.side pl) = M := by
  cases pl with
  | x => rfl
  | y => rfl
  | h => exact absurd rfl h
theorem sendAll_cons {pl : Pl} {s s' : Sd} {a : Ad} {r : List Ad} {l : List (Ad × Ad)} (h : sendAll pl s (a :: r) = some (s', l)) : ∃ s1 n l1, s.send a = some (s1, n) ∧ sendAll pl s1 r = some (s', l1) ∧ l = ((pl, n), a) :: l1 := by
  unfold sendAll at h
  cases e1 : s.send a with
  | none => simp only [e1] at h; cases h
  | some p =>
    obtain ⟨s1, n⟩ := p
    simp only [e1] at h
    cases e2 : sendAll pl s1 r with
    | none => simp only [e2] at h; cases h
    | some p =>
      obtain ⟨s2, l1⟩ := p
      simp only [e2, Option.some.injEq, Prod.mk.injEq] at h
      obtain ⟨rfl, rfl⟩ := h
      exact ⟨s1, n, l1, rfl, e2, rfl⟩
/-- for address in self.known(place): letters.append((self.sides[place].sent(address), address)) -/
theorem rd_inner {t D : Addr} {pl : Pl} {M : Mt} {s' : Sd} {l' L : List (Ad × Ad)} {F : List Addr} {H0 H : Hp} {v3 : Option V} {En : Ends} (T : Txt G.K mg G.c) (hpl : pl ≠ .h) (MA : MtAt G H t M F) (hL : LetAt G.K H D L) (nD : D ∉ F) (hD0 : H0 D = none)
    (ho : ordA (M.side pl).adr = true) (hlen : (M.side pl).adr.length < 400) (hlL : L.length < 400) (hs : sendAll pl (M.side pl) (M.side pl).adr = some (s', l')) {F0 : List Addr} (k0 : Keep F0 H0 H) (g0 : Grow F0 F H0)
    (k : ∀ (H' : Hp) (F' : List Addr) (v : Option V), Keep F0 H0 H' → Grow F0 F' H0 → MtAt G H' t (M.put pl s') F' → LetAt G.K H' D (L ++ l') → D ∉ F' → (L ++ l').length = L.length + (M.side pl).adr.length → En.nx [some (.ref t), some (.ref D), some (.str pl.s), v, none, none, none, none] H') :
    tFor (iTup G.K (tMeth G.c.meet "known" (spKnown G) [] C8.E0 (tVar 0) (tCons (tVar 2) tNil))) (gName 3)
      (tDrop (tBM G.K "list" rAppend (tVar 1) (tCons (tTup (tCons (tMeth G.c.side "sent" (spSSent G) [] C8.E0 (tDGet (tFld G.K (tVar 0) "sides") (tVar 2)) (tCons (tVar 3) tNil)) (tCons (tVar 3) tNil))) tNil))) En
      [some (.ref t), some (.ref D), some (.str pl.s), v3, none, none, none, none] H := by
  obtain ⟨dx, sd, ro, sx, sy, h1, h2, _⟩ := MA.one hpl
  refine ⟨_, rfl, t, dx, _, rfl, h1, by kernel_rfl, _, rfl, t, pl, M, F, rfl, hpl, MA, ho, by omega, fun H1 l ts kk hl hA => ?_⟩
  have hlt : ts.length = (M.side pl).adr.length := hA.length
  refine ⟨l, rfl, ⟨_, SqT.of hl⟩, for_tup (K := G.K) (a := l) (xs := ts.map V.ref) (fun j σ H' => ∃ cur lj lr F' v, σ = [some (.ref t), some (.ref D), some (.str pl.s), v, none, none, none, none] ∧ Keep F0 H0 H' ∧ Grow F0 F' H0 ∧ MtAt G H' t (M.put pl cur) F' ∧
      LetAt G.K H' D (L ++ lj) ∧ D ∉ F' ∧ lj.length = j ∧ sendAll pl cur ((M.side pl).adr.drop j) = some (s', lr) ∧ lj ++ lr = l' ∧ H' l = some (.tup (ts.map V.ref)) ∧ Paired (AdAt G.K H') ts (M.side pl).adr) ?_ ?_ ?_ ?_⟩
  · refine ⟨M.side pl, [], l', F, v3, rfl, k0.tr0 kk, g0, ?_, ?_, nD, rfl, hs, rfl, hl, hA⟩
    · rw [put_self hpl]
      exact kk.mt (fun _ _ z => nomatch z) MA
    · rw [List.append_nil]
      exact kk.letAt (fun z => nomatch z) hL
  · rintro j σ H' _ ⟨cur, lj, lr, F', v, _, _, _, _, _, _, _, _, _, e, _⟩
    exact SqT.of e
  · rintro j x σ H' hx ⟨cur, lj, lr, F', v, rfl, kp, g, MA', hL', nD', hj, hsr, hll, hl', hA'⟩
    obtain ⟨ta, hta, rfl⟩ : ∃ ta, ts[j]? = some ta ∧ x = V.ref ta := by
      rw [List.getElem?_map] at hx
      cases e : ts[j]? with
      | none => rw [e] at hx; cases hx
      | some ti => rw [e] at hx; exact ⟨ti, rfl, (Option.some.inj hx).symm⟩
    have hjl : j < (M.side pl).adr.length := by rw [← hlt]; exact (List.getElem?_eq_some_iff.mp hta).1
    obtain ⟨ta', hta', hAj⟩ := Paired.at_ hA' (List.getElem?_eq_getElem hjl)
    rw [hta] at hta'
    cases hta'
    rw [List.drop_eq_getElem_cons hjl] at hsr
    obtain ⟨s1, n, l1, e1, e2, e3⟩ := sendAll_cons hsr
    obtain ⟨ps, hps1, hps2⟩ := id hL'
    have hpl' : ps.length = L.length + j := by rw [hps2.length, List.length_append, hj]
    refine ⟨_, rfl, .inl ⟨rfl, _, SqL.of hps1⟩, rd_sent T rfl rfl (fun R z => ⟨_, rfl, z⟩) MA' hpl hAj (by rw [put_side hpl]; exact e1) fun H2 F2 ao k2 g2 MA2 hao => ?_⟩
    have nD2 : D ∉ F2 := g2.not nD' hps1
    have hD2 : H2 D = some (.lst (ps.map V.ref)) := k2.old _ _ hps1 (.inl nD')
    refine ⟨_, rfl, (by show 2 ≤ sizeLine; decide), fun pr hpr => ?_⟩
    have kn : Keep [] H2 (upd H2 pr (HO.tup [V.ref ao, V.ref ta])) := Keep.new hpr _
    have nDp : D ≠ pr := ne_of_none hD2 hpr
    have hD3 : upd H2 pr (HO.tup [V.ref ao, V.ref ta]) D = some (.lst (ps.map V.ref)) := by rw [upd_ne nDp]; exact hD2
    refine ⟨D, _, _, rfl, rfl, hD3, small1000 (by rw [List.length_map]; omega), ?_⟩
    have kD : Keep [D] (upd H2 pr (HO.tup [V.ref ao, V.ref ta])) (upd (upd H2 pr (HO.tup [V.ref ao, V.ref ta])) D (HO.lst (ps.map V.ref ++ [V.ref pr]))) := Keep.upd (by simp) hD3 id _
    have k02 : Keep F0 H0 H2 := kp.trans k2 g
    have k03 : Keep F0 H0 (upd (upd H2 pr (HO.tup [V.ref ao, V.ref ta])) D (HO.lst (ps.map V.ref ++ [V.ref pr]))) := (k02.tr0 kn).updNew hD0 _
    have lnp : l ≠ D := by
      rintro rfl
      rw [hl'] at hps1
      cases hps1
    refine ⟨s1, lj ++ [((pl, n), (M.side pl).adr[j])], l1, F2, _, rfl, k03, g.trans g2 kp, ?_, ⟨ps ++ [pr], by rw [upd_same, List.map_append] <;> rfl, ?_⟩, nD2, by rw [List.length_append, hj] <;> rfl, e2, by rw [← hll, e3, List.append_assoc] <;> rfl, ?_, ?_⟩
    · rw [put_put] at MA2
      exact kD.mt (fun b hb z => nD2 (by simp at z; subst z; exact hb)) (kn.mt (fun _ _ z => nomatch z) MA2)
    · rw [← List.append_assoc]
      exact Paired.snoc (kD.prAts (kn.prAts (k2.prAts hps2))) ⟨ao, ta, kD.sqt (.of upd_same), kD.sqt (kn.sqt hao), kD.sqt (kn.sqt (k2.sqt hAj))⟩
    · exact kD.old _ _ (kn.old _ _ (k2.old _ _ hl' (.inr True.intro)) (.inr True.intro)) (.inr True.intro)
    · exact kD.adAts (kn.adAts (k2.adAts hA'))
  · rintro σ H' ⟨cur, lj, lr, F', v, rfl, kp, g, MA', hL', nD', hj, hsr, hll, hl', hA'⟩
    rw [List.length_map, hlt, List.drop_length] at hsr
    unfold sendAll at hsr
    cases hsr
    rw [List.append_nil] at hll
    subst hll
    exact k H' F' v kp g MA' hL' nD' (by rw [List.length_append, hj, List.length_map, hlt])
end
end QD

set_option Elab.async false
set_option linter.all false
set_option maxRecDepth 100000
set_option maxHeartbeats 4000000
/-! Meeting.round: the letters come; the round -/
namespace QD
open PySem PySem.Spec PyProof.Rows L2

theorem side_put_keys {M : Mt} {pl : Pl} {a : Sd} : (M.put pl a).n = M.n ∧ (M.put pl a).stuck = M.stuck := by cases pl <;> exact ⟨rfl, rfl⟩
theorem recv_cons {M M1 : Mt} {nb nw : Bool} {z : Ad × Ad} {r : List (Ad × Ad)} (h : recv M nb (z :: r) = some (M1, nw)) : ∃ M2 f b, M.recv1 z.1 z.2 = some (M2, f, b) ∧ recv M2 (nb || b) r = some (M1, nw) := by
  obtain ⟨o, a⟩ := z
  unfold recv at h
  cases e : M.recv1 o a with
  | none => simp only [e] at h; cases h
  | some p =>
    obtain ⟨M2, f, b⟩ := p
    simp only [e] at h
    exact ⟨M2, f, b, rfl, h⟩
theorem recv1_cases {M M2 : Mt} {o a : Ad} {f b : Bool} (h : M.recv1 o a = some (M2, f, b)) : a.1 ≠ .h ∧ ∃ c, (M.side a.1).came a.2 o = some c ∧
    ((c = false ∧ M2 = M ∧ b = false) ∨ (c = true ∧ ∃ s, ({ M.side a.1 with heard := true } : Sd).learn o = some (s, b) ∧ M2 = M.put a.1 s)) := by
  unfold Mt.recv1 at h
  by_cases hp : a.1 = .h
  · rw [if_pos hp] at h; cases h
  rw [if_neg hp] at h
  refine ⟨hp, ?_⟩
  cases e : (M.side a.1).came a.2 o with
  | none => simp only [e] at h; cases h
  | some c =>
    refine ⟨c, rfl, ?_⟩
    cases c with
    | false =>
      simp only [e, Option.some.injEq, Prod.mk.injEq] at h
      exact .inl ⟨rfl, h.1.symm, h.2.2.symm⟩
    | true =>
      simp only [e] at h
      cases e2 : ({ M.side a.1 with heard := true } : Sd).learn o with
      | none => simp only [e2] at h; cases h
      | some p =>
        obtain ⟨s, b'⟩ := p
        simp only [e2, Option.some.injEq, Prod.mk.injEq] at h
        obtain ⟨h1, _, h3⟩ := h
        subst h3
        exact .inr ⟨rfl, s, rfl, h1.symm⟩
section
variable {G : Gx} {mg : Str → Option Value} {base : Heap}
theorem put_heard {pl : Pl} {a b : Addr} {k : Bool} : putF "has_heard" (V.bl true) (fS pl a b k) = fS pl a b true := by kernel_rfl
/-- side.has_heard = True -/
theorem SdAt.hear {H : Hp} {s : Addr} {pl : Pl} {m : Sd} {F : List Addr} (h : SdAt G H s pl m F) {dx pst al : Addr} (e : H s = some (.ins G.c.side dx (fS pl pst al m.heard))) :
    Keep F H (upd H s (.ins G.c.side dx (fS pl pst al true))) ∧ SdAt G (upd H s (.ins G.c.side dx (fS pl pst al true))) s pl { m with heard := true } F := by
  obtain ⟨dxs, pst', p, al', Fp, eF, nd, h1, h2, h3, h4⟩ := id h
  have e0 := Option.some.inj (h1.symm.trans e)
  injection e0 with e1 e2 e3
  simp only [fS, List.cons.injEq, Prod.mk.injEq, V.ref.injEq, true_and, and_true] at e3
  subst e2
  obtain ⟨rfl, rfl⟩ := e3
  have k : Keep F H (upd H s (.ins G.c.side dxs (fS pl pst' al' true))) := Keep.upd (by rw [eF]; simp) h1 npur_S _
  have ks : Keep [s] H (upd H s (.ins G.c.side dxs (fS pl pst' al' true))) := Keep.upd (by simp) h1 npur_S _
  have nd' := nd
  rw [eF] at nd'
  simp only [List.nodup_cons, List.mem_cons, not_or] at nd'
  obtain ⟨⟨n1, n2, n3⟩, ⟨n4, n5⟩, n6, n7⟩ := nd'
  refine ⟨k, dxs, pst', p, al', Fp, eF, nd, upd_same, by rw [upd_ne (Ne.symm n1)]; exact h2, ks.adL (by simp [Ne.symm n2]) h3, ks.ps (fun b hb z => ?_) (show PsAt G H p { m with heard := true } Fp from h4)⟩
  simp only [List.mem_singleton] at z
  subst z
  exact n3 hb
/-- one side changed, and things that are not the meeting's -/
theorem MtAt.oneX {H : Hp} {t : Addr} {M : Mt} {F : List Addr} (h : MtAt G H t M F) {pl : Pl} (hp : pl ≠ .h) : ∃ (dx sd ro sx sy : Addr), H t = some (.ins G.c.meet dx (fM sd ro M.stuck)) ∧ H sd = some (.dK [(.inr "x", .ref sx), (.inr "y", .ref sy)]) ∧
    ∃ Fs, SdAt G H (pick pl sx sy) pl (M.side pl) Fs ∧ (∀ b ∈ Fs, b ∈ F) ∧ ∀ (X : List Addr) (H' : Hp) (m' : Sd), (∀ b ∈ X, b ∉ F) → Keep (Fs ++ X) H H' → SdAt G H' (pick pl sx sy) pl m' Fs → MtAt G H' t (M.put pl m') F := by
  obtain ⟨dx, sd, ro, sx, sy, rs, Fx, Fy, eF, nd, h1, h2, h3, h4, h5, h6⟩ := h
  refine ⟨dx, sd, ro, sx, sy, h1, h2, ?_⟩
  have nd0 := nd
  rw [eF] at nd0
  simp only [List.nodup_cons, List.mem_cons, not_or, List.mem_append, List.nodup_append] at nd0
  obtain ⟨⟨n1, n2, n3, n4⟩, ⟨n5, n6, n7⟩, ⟨n8, n9⟩, n10, n11, n12⟩ := nd0
  cases pl with
  | x =>
    refine ⟨Fx, h5, fun b hb => by rw [eF]; simp [hb], fun X H' m' hX k S => ?_⟩
    have out : ∀ b, b ∈ F → b ∉ Fx → b ∉ Fx ++ X := fun b hb hn z => by
      rcases List.mem_append.mp z with z | z
      · exact hn z
      · exact hX b z hb
    refine ⟨dx, sd, ro, sx, sy, rs, Fx, Fy, eF, nd, k.old _ _ h1 (.inl (out _ (by rw [eF]; simp) n3)), k.old _ _ h2 (.inl (out _ (by rw [eF]; simp) n6)), k.old _ _ h3 (.inl (out _ (by rw [eF]; simp) n8)), h4, S, k.sd (fun b hb => out b (by rw [eF]; simp [hb]) fun z => n12 b z b hb rfl) h6⟩
  | y =>
    refine ⟨Fy, h6, fun b hb => by rw [eF]; simp [hb], fun X H' m' hX k S => ?_⟩
    have out : ∀ b, b ∈ F → b ∉ Fy → b ∉ Fy ++ X := fun b hb hn z => by
      rcases List.mem_append.mp z with z | z
      · exact hn z
      · exact hX b z hb
    refine ⟨dx, sd, ro, sx, sy, rs, Fx, Fy, eF, nd, k.old _ _ h1 (.inl (out _ (by rw [eF]; simp) n4)), k.old _ _ h2 (.inl (out _ (by rw [eF]; simp) n7)), k.old _ _ h3 (.inl (out _ (by rw [eF]; simp) n9)), h4, k.sd (fun b hb => out b (by rw [eF]; simp [hb]) fun z => n12 b hb b z rfl) h5, S⟩
  | h => exact absurd rfl hp
theorem put_stuck {a b : Addr} {k l : Bool} : putF "is_stuck" (V.bl l) (fM a b k) = fM a b l := by kernel_rfl
theorem no_len3 {a b : Addr} {k : Bool} : (fM a b k).length < 1000 := by show 3 < 1000; decide
def spRound (G : Gx) : Sp := fun vs H Q _ => ∃ (t : Addr) (M M' : Mt) (F : List Addr), vs = [.ref t] ∧ MtAt G H t M F ∧ M.over = false ∧ M.round = some M' ∧
  ∀ (H' : Hp) (F' : List Addr) (v : V), Keep F H H' → Grow F F' H → MtAt G H' t M' F' → Q v H'
theorem scRo : FnScope ["self", "letters", "place", "address", "found", "is_new", "origin", "side"] ["self"] (C8.fnScope sRound) := C8.fnScope_by (by decide +kernel)
theorem round_some {M M' : Mt} (h : M.round = some M') : ordA M.x.adr = true ∧ ordA M.y.adr = true ∧ M.x.adr.length < 400 ∧ M.y.adr.length < 400 ∧ M.n < 900 ∧
    ∃ sx lx sy ly M1 nw, sendAll .x M.x M.x.adr = some (sx, lx) ∧ sendAll .y M.y M.y.adr = some (sy, ly) ∧ recv { M with x := sx, y := sy } false (lx ++ ly) = some (M1, nw) ∧ M' = { M1 with n := M.n + 1, stuck := !nw } := by
  unfold Mt.round at h
  by_cases c : (ordA M.x.adr && ordA M.y.adr && decide (M.x.adr.length < 400) && decide (M.y.adr.length < 400) && decide (M.n < 900)) = true
  · rw [if_pos c] at h
    simp only [Bool.and_eq_true, decide_eq_true_eq] at c
    obtain ⟨⟨⟨⟨c1, c2⟩, c3⟩, c4⟩, c5⟩ := c
    refine ⟨c1, c2, c3, c4, c5, ?_⟩
    cases e1 : sendAll .x M.x M.x.adr with
    | none => simp only [e1] at h; cases h
    | some p =>
      obtain ⟨sx, lx⟩ := p
      simp only [e1] at h
      cases e2 : sendAll .y M.y M.y.adr with
      | none => simp only [e2] at h; cases h
      | some p =>
        obtain ⟨sy, ly⟩ := p
        simp only [e2] at h
        cases e3 : recv { M with x := sx, y := sy } false (lx ++ ly) with
        | none => simp only [e3] at h; cases h
        | some p =>
          obtain ⟨M1, nw⟩ := p
          simp only [e3, Option.some.injEq] at h
          exact ⟨sx, lx, sy, ly, M1, nw, rfl, rfl, e3, h.symm⟩
  · rw [if_neg c] at h; cases h
theorem recv_n : ∀ {L : List (Ad × Ad)} {M M1 : Mt} {nb nw : Bool}, recv M nb L = some (M1, nw) → M1.n = M.n ∧ M1.stuck = M.stuck
  | [], M, M1, nb, nw, h => by
    unfold recv at h
    cases h
    exact ⟨rfl, rfl⟩
  | z :: L, M, M1, nb, nw, h => by
    obtain ⟨M2, f, b, e1, e2⟩ := recv_cons h
    obtain ⟨_, c, _, q⟩ := recv1_cases e1
    obtain ⟨i1, i2⟩ := recv_n e2
    rcases q with ⟨_, q, _⟩ | ⟨_, s, _, q⟩
    · rw [i1, i2, q]; exact ⟨rfl, rfl⟩
    · rw [i1, i2, q]; exact side_put_keys
theorem ok_round {f : Addr} {fd : FuncData} (F : C8.Fun G.K "round" "Meeting.round" sRound f fd) (T : Txt G.K mg G.c) (MO : C8.Met G.P G.w G.K mg base 3 G.c.meet "is_over" (spOver G) []) (MK : C8.Met G.P G.w G.K mg base 2 G.c.meet "known" (spKnown G) [])
    (MS : C8.Met G.P G.w G.K mg base 4 G.c.side "sent" (spSSent G) []) (MI : C8.Met G.P G.w G.K mg base 4 G.c.side "lets_in" (spLets G) []) (ML : C8.Met G.P G.w G.K mg base 1 G.c.side "learns" (spLearns G) []) :
    FnOk G.P G.w G.K mg base C8.CX0 5 f fd ["self"] (spRound G) := by
  refine C8.fn0 F scRo (fun vs H Q E h => ?_) (fun cdv A outer s H vs Q E hr h => ?_)
  · obtain ⟨t, M, M', F, rfl, _⟩ := h
    rfl
  · obtain ⟨t, M, M', Fo, rfl, MA, hov, hro, k⟩ := h
    have hu := hu_of hr
    refine ⟨_, pss_cons (ps_if (pt_val (C8.pe_mt0 MO hr (by decide) (pv 0))) (pss_one ps_never) pss_nil)
      (pss_cons (ps_set (i := 1) scRo.nd rfl (.inl rfl) (pe_lst pa_nil))
      (C8.pss_cut (ps_for PassesOwn.never rfl (pi_tup (C8.pe_gc (v := .ref T.places.choose) rfl ⟨_, T.places.choose_spec.1, rfl⟩)) (pg_name (i := 2) scRo.nd rfl (.inl rfl))
        (pss_one (ps_for PassesOwn.never rfl (pi_tup (C8.pe_mt MK hr (by decide) (pv 0) (pa_cons (pv 2) pa_nil))) (pg_name (i := 3) scRo.nd rfl (.inl rfl))
          (pss_one (ps_expr (pe_bm PySem.F.plainAttrs_list PySem.F.slot_list_append PySem.F.type_list_append mt_append (pv 1) (pa_cons (pe_tup (pa_cons (C8.pe_mt MS hr (by decide) (pe_dget hu (pe_fld (pv 0) rfl) (pv 2) (fun _ _ => rfl)) (pa_cons (pv 3) pa_nil)) (pa_cons (pv 3) pa_nil))) pa_nil)))))))
      (pss_cons (ps_par (i := 4) (j := 5) rfl scRo.nd rfl rfl (by decide) rfl rfl (pa_cons (pe_lst pa_nil) (pa_cons pe_bl pa_nil)) (by rfl))
      (C8.pss_cut (ps_for PassesOwn.never rfl (pi_list (pv 1)) (pg_tup rfl (pgs_cons (pg_name (i := 6) scRo.nd rfl (.inl rfl)) (pgs_cons (pg_name (i := 3) scRo.nd rfl (.inl rfl)) pgs_nil)))
        (pss_cons (ps_set (i := 7) scRo.nd rfl (.inl rfl) (pe_dget hu (pe_fld (pv 0) rfl) (pe_ix ix_tup (pv 3) pe_int (fun _ _ => rfl)) (fun _ _ => rfl)))
        (pss_one (ps_if (pt_val (C8.pe_mt MI hr (by decide) (pv 7) (pa_cons (pe_ix ix_tup (pv 3) pe_int (fun _ _ => rfl)) (pa_cons (pv 6) pa_nil))))
          (pss_cons (ps_fld (pv 7) pe_bl rfl)
          (pss_cons (ps_expr (pe_bm PySem.F.plainAttrs_list PySem.F.slot_list_append PySem.F.type_list_append mt_append (pv 4) (pa_cons (pe_tup (pa_cons (pv 6) (pa_cons (pv 3) pa_nil))) pa_nil)))
          (pss_one (ps_if (pt_val (C8.pe_mt ML hr (by decide) (pv 7) (pa_cons (pv 6) pa_nil))) (pss_one (ps_set (i := 5) scRo.nd rfl (.inl rfl) pe_bl)) pss_nil)))) pss_nil))))
      (pss_cons (ps_expr (pe_bm PySem.F.plainAttrs_list PySem.F.slot_list_append PySem.F.type_list_append mt_append (pe_fld (pv 0) rfl) (pa_cons (pe_callTy call_tuple_of (by rfl) T.tuple (by decide +kernel) (pa_cons (pv 4) pa_nil)) pa_nil)))
      (pss_cons (ps_fld (pv 0) (pe_not (pv 5)) rfl)
      (pss_one (ps_ret (pe_callTy call_tuple_of (by rfl) T.tuple (by decide +kernel) (pa_cons (pv 4) pa_nil)))))))))), ?_⟩
    obtain ⟨c1, c2, c3, c4, c5, sx, lx, sy, ly, M1, nw, e1, e2, e3, rfl⟩ := round_some hro
    obtain ⟨dx0, sd0, ro0, sx0, sy0, h1, h2, _⟩ := MA.one (pl := .x) (fun z => nomatch z)
    -- if self.is_over(): return ()
    refine ⟨_, rfl, t, dx0, _, rfl, h1, by kernel_rfl, t, M, Fo, rfl, MA, _, rfl, ?_⟩
    rw [hov]
    refine iteF ?_
    -- letters = []
    refine ⟨Nat.zero_le _, fun D hD => ?_⟩
    have nDF : D ∉ Fo := fun z => by
      obtain ⟨o, e, _⟩ := MA.own D z
      rw [hD] at e; cases e
    have kD0 : Keep Fo H (upd H D (HO.lst [])) := Keep.new hD _
    have hA0 : upd H D (HO.lst []) D = some (HO.lst []) := upd_same
    have MA0 : MtAt G (upd H D (HO.lst [])) t M Fo := (Keep.new (F := []) hD _).mt (fun _ _ z => nomatch z) MA
    generalize upd H D (HO.lst []) = H0 at kD0 hA0 MA0
    -- the letters are sent
    refine ⟨fun σ' H' => ∃ v2 v3 F, σ' = [some (.ref t), some (.ref D), v2, v3, none, none, none, none] ∧ Keep Fo H H' ∧ Grow Fo F H ∧ MtAt G H' t { M with x := sx, y := sy } F ∧ LetAt G.K H' D (lx ++ ly) ∧ D ∉ F ∧ (lx ++ ly).length ≤ 800, ?_, ?_⟩
    · refine ⟨T.places.choose, rfl, ⟨_, T.places.choose_spec.2.sq⟩, for_tup (K := G.K) (a := T.places.choose) (xs := [.str "x", .str "y"]) (fun i σ H' => ∃ v2 v3 Mi Li F, σ = [some (.ref t), some (.ref D), v2, v3, none, none, none, none] ∧ Keep Fo H H' ∧ Grow Fo F H ∧ MtAt G H' t Mi F ∧ LetAt G.K H' D Li ∧ D ∉ F ∧ (match i with
          | 0 => Mi = M ∧ Li = []
          | 1 => Mi = { M with x := sx } ∧ Li = lx ∧ lx.length = M.x.adr.length
          | _ => Mi = { M with x := sx, y := sy } ∧ Li = lx ++ ly ∧ (lx ++ ly).length ≤ 800)) ?_ (fun _ _ _ _ _ => T.places.choose_spec.2.sq) ?_ ?_⟩
      · exact ⟨none, none, M, [], Fo, rfl, kD0, Grow.refl, MA0, ⟨[], hA0, .nil⟩, nDF, rfl, rfl⟩
      · rintro i x σ H' hx ⟨v2, v3, Mi, Li, F, rfl, kp, g, MAi, hL, nD, hP⟩
        match i, hx, hP with
        | 0, hx, hP =>
          obtain ⟨rfl, rfl⟩ := hP
          have hx : V.str "x" = x := Option.some.inj hx
          subst hx
          exact rd_inner (pl := .x) T (fun z => nomatch z) MAi hL nD hD c1 c3 (by show 0 < 400; decide) e1 kp g fun H2 F2 v kp2 g2 MA2 hL2 nD2 hlen2 => ⟨some (.str "x"), v, _, _, F2, rfl, kp2, g2, MA2, hL2, nD2, rfl, List.nil_append _, by rw [List.nil_append] at hlen2; exact hlen2.trans (Nat.zero_add _)⟩
        | 1, hx, hP =>
          obtain ⟨rfl, rfl, hl1⟩ := hP
          have hx : V.str "y" = x := Option.some.inj hx
          subst hx
          exact rd_inner (pl := .y) T (fun z => nomatch z) MAi hL nD hD c2 c4 (by omega) e2 kp g fun H2 F2 v kp2 g2 MA2 hL2 nD2 hlen2 => ⟨some (.str "y"), v, _, _, F2, rfl, kp2, g2, MA2, hL2, nD2, rfl, rfl, by
            rw [hlen2]
            have : (Mt.side { M with x := sx } .y).adr.length < 400 := c4
            omega⟩
        | i + 2, hx, _ => simp at hx
      · rintro σ H' ⟨v2, v3, Mi, Li, F, rfl, kp, g, MAi, hL, nD, rfl, rfl, hlen⟩
        exact ⟨v2, v3, F, rfl, kp, g, MAi, hL, nD, hlen⟩
    rintro σ1 H1 ⟨v2, v3, F1, rfl, kp1, g1, MA1, ⟨ps, hps, hpr⟩, nD1, hlen⟩
    -- found, is_new = ([], False)
    refine ⟨Nat.zero_le _, fun FD hFD => ⟨_, _, rfl, ?_⟩⟩
    have hFD0 : H FD = none := kp1.dom _ hFD
    have nDFD : D ≠ FD := ne_of_none hps hFD
    have nFD1 : FD ∉ F1 := fun z => by
      obtain ⟨o, e, _⟩ := MA1.own FD z
      rw [hFD] at e; cases e
    have kn1 : Keep [] H1 (upd H1 FD (HO.lst [])) := Keep.new hFD _
    have hFD1 : upd H1 FD (HO.lst []) FD = some (HO.lst []) := upd_same
    generalize upd H1 FD (HO.lst []) = H2 at kn1 hFD1
    -- the letters come
    refine ⟨fun σ' H' => ∃ v2 v3 v6 v7 F fs, σ' = [some (.ref t), some (.ref D), v2, v3, some (.ref FD), some (.bl nw), v6, v7] ∧ Keep Fo H H' ∧ Grow Fo F H ∧ MtAt G H' t M1 F ∧ H' FD = some (.lst fs) ∧ fs.length ≤ 800 ∧ FD ∉ F, ?_, ?_⟩
    · refine ⟨_, rfl, D, rfl, ⟨_, SqL.of (kn1.old _ _ hps (.inl fun z => nomatch z))⟩, for_list (K := G.K) (a := D) (xs := ps.map V.ref) (fun j σ H' => ∃ v2 v3 v6 v7 Mj nj F fs, σ = [some (.ref t), some (.ref D), v2, v3, some (.ref FD), some (.bl nj), v6, v7] ∧ Keep Fo H H' ∧ Grow Fo F H ∧ MtAt G H' t Mj F ∧
          H' D = some (.lst (ps.map V.ref)) ∧ Paired (PrAt G.K H') ps (lx ++ ly) ∧ D ∉ F ∧ H' FD = some (.lst fs) ∧ fs.length ≤ j ∧ FD ∉ F ∧ recv Mj nj ((lx ++ ly).drop j) = some (M1, nw)) ?_ ?_ ?_ ?_⟩
      · exact ⟨v2, v3, none, none, _, false, F1, [], rfl, kp1.tr0 kn1, g1, kn1.mt (fun _ _ z => nomatch z) MA1, kn1.old _ _ hps (.inl fun z => nomatch z), kn1.prAts hpr, nD1, hFD1, Nat.le_refl _, nFD1, e3⟩
      · rintro j σ H' _ ⟨_, _, _, _, _, _, _, _, _, _, _, _, e, _⟩
        exact SqL.of e
      · rintro j x σ H' hx ⟨w2, w3, w6, w7, Mj, nj, F, fs, rfl, kp, g, MAj, hDj, hprj, nDj, hFDj, hfs, nFDj, hrec⟩
        obtain ⟨pr, hpr1, rfl⟩ : ∃ pr, ps[j]? = some pr ∧ x = V.ref pr := by
          rw [List.getElem?_map] at hx
          cases e : ps[j]? with
          | none => rw [e] at hx; cases hx
          | some ti => rw [e] at hx; exact ⟨ti, rfl, (Option.some.inj hx).symm⟩
        have hlp : ps.length = (lx ++ ly).length := hprj.length
        have hjl : j < (lx ++ ly).length := by rw [← hlp]; exact (List.getElem?_eq_some_iff.mp hpr1).1
        obtain ⟨pr', hpr1', to_, ta, hP1, hP2, hP3⟩ := Paired.at_ hprj (List.getElem?_eq_getElem hjl)
        rw [hpr1] at hpr1'
        cases hpr1'
        rw [List.drop_eq_getElem_cons hjl] at hrec
        obtain ⟨M2, fnd, b, r1, r2⟩ := recv_cons hrec
        obtain ⟨hpl, c, hc, hcase⟩ := recv1_cases r1
        generalize hz : (lx ++ ly)[j] = z at hP2 hP3 r1 r2 hpl hc hcase
        obtain ⟨zo, za⟩ := z
        obtain ⟨dx, sd, ro, sx1, sy1, g1', g2', Fs, SA, sub, up⟩ := MAj.oneX (pl := za.1) hpl
        obtain ⟨dxs, pst, al, hso⟩ := SA.obj
        -- side = self.sides[address[0]]; if side.lets_in(address[1], origin)
        refine ⟨pr, _, rfl, hP1, rfl, _, _, rfl, _, _, rfl, rfl, _, rfl, t, G.c.meet, dx, _, _, rfl, g1', T.clM, T.nM1, lM1, _, rfl, ta, _, _, _, rfl, rfl, hP3, atI_nat (j := 0) rfl, sd, _, rfl, by rw [← side_get hpl]; exact DGet.k (k := .inr za.1.s) g2',
          _, rfl, pick za.1 sx1 sy1, dxs, _, rfl, hso, no_lets, _, rfl, ta, _, _, _, rfl, rfl, hP3, atI_nat (j := 1) rfl, _, rfl, pick za.1 sx1 sy1, to_, zo, za.2, za.1, Mj.side za.1, c, Fs, rfl, SA, hP2, hc, fun H3 k3 => ⟨_, rfl, ?_⟩⟩
        have kp3 : Keep Fo H H3 := kp.tr0 k3
        have hD3 := k3.old _ _ hDj (.inl fun z => nomatch z)
        have hFD3 := k3.old _ _ hFDj (.inl fun z => nomatch z)
        rcases hcase with ⟨rfl, rfl, rfl⟩ | ⟨rfl, s2, hln, rfl⟩
        · refine iteF ⟨w2, _, _, _, M2, nj, F, fs, rfl, kp3, g, k3.mt (fun _ _ z => nomatch z) MAj, hD3, k3.prAts hprj, nDj, hFD3, by omega, nFDj, by rw [Bool.or_false] at r2; exact r2⟩
        · refine iteT ?_
          have SA3 := k3.sd (fun _ _ z => nomatch z) SA
          have hso3 := k3.old _ _ hso (.inl fun z => nomatch z)
          have nDs : D ∉ Fs := fun z => nDj (sub D z)
          have nFDs : FD ∉ Fs := fun z => nFDj (sub FD z)
          -- side.has_heard = True
          refine ⟨_, rfl, pick za.1 sx1 sy1, G.c.side, dxs, _, rfl, hso3, T.clS, T.nS4, (by show 4 < 1000; decide), ?_⟩
          rw [put_heard]
          obtain ⟨k4, SA4⟩ := SA3.hear hso3
          have hso4 : upd H3 (pick za.1 sx1 sy1) (.ins G.c.side dxs (fS za.1 pst al true)) (pick za.1 sx1 sy1) = some (.ins G.c.side dxs (fS za.1 pst al true)) := upd_same
          generalize upd H3 (pick za.1 sx1 sy1) (.ins G.c.side dxs (fS za.1 pst al true)) = H4 at k4 SA4 hso4
          have hD4 := k4.old _ _ hD3 (.inl nDs)
          have hFD4 := k4.old _ _ hFD3 (.inl nFDs)
          -- found.append((origin, address))
          refine ⟨_, rfl, .inl ⟨rfl, _, SqL.of hFD4⟩, _, rfl, _, rfl, (by show 2 ≤ sizeLine; decide), fun q hq => ?_⟩
          have kn : Keep [] H4 (upd H4 q (HO.tup [V.ref to_, V.ref ta])) := Keep.new hq _
          have nFq : FD ≠ q := ne_of_none hFD4 hq
          have hFD5 : upd H4 q (HO.tup [V.ref to_, V.ref ta]) FD = some (HO.lst fs) := by rw [upd_ne nFq]; exact hFD4
          refine ⟨FD, _, _, rfl, rfl, hFD5, small1000 (by omega), ?_⟩
          have kF : Keep [FD] (upd H4 q (HO.tup [V.ref to_, V.ref ta])) (upd (upd H4 q (HO.tup [V.ref to_, V.ref ta])) FD (HO.lst (fs ++ [V.ref q]))) := Keep.upd (by simp) hFD5 id _
          have k45 : Keep [FD] H4 (upd (upd H4 q (HO.tup [V.ref to_, V.ref ta])) FD (HO.lst (fs ++ [V.ref q]))) := kn.of0.tr kF
          have hFD6 : upd (upd H4 q (HO.tup [V.ref to_, V.ref ta])) FD (HO.lst (fs ++ [V.ref q])) FD = some (HO.lst (fs ++ [V.ref q])) := upd_same
          have kp4 : Keep Fo H H4 := kp3.trans k4 fun b hb => g b (sub b hb)
          have kp5 : Keep Fo H (upd (upd H4 q (HO.tup [V.ref to_, V.ref ta])) FD (HO.lst (fs ++ [V.ref q]))) := (kp4.tr0 kn).updNew hFD0 _
          generalize upd (upd H4 q (HO.tup [V.ref to_, V.ref ta])) FD (HO.lst (fs ++ [V.ref q])) = H5 at k45 hFD6 kp5
          have SA5 := k45.sd (fun b hb z => nFDs (by simp at z; subst z; exact hb)) SA4
          have npS : pick za.1 sx1 sy1 ≠ FD := fun z => by
            rw [z, hFD4] at hso4
            cases hso4
          have hso5 := k45.old _ _ hso4 (.inl (by simp [npS]))
          have hP2' : AdAt G.K H5 to_ zo := k45.sqt (k4.sqt (k3.sqt hP2))
          -- if side.learns(origin): is_new = True
          refine ⟨_, rfl, pick za.1 sx1 sy1, dxs, _, rfl, hso5, no_learns, _, rfl, pick za.1 sx1 sy1, to_, zo, za.1, _, s2, b, Fs, rfl, SA5, hP2', hln, fun H6 k6 SA6 => ⟨_, rfl, ?_⟩⟩
          have kall : Keep (Fs ++ [FD]) H' H6 := ((k3.of0.tr (k4.mono (by simp +contextual))).tr (k45.mono (by simp +contextual))).tr (k6.mono (by simp +contextual))
          have MA6 : MtAt G H6 t (Mj.put za.1 s2) F := up [FD] H6 s2 (fun b hb z => nFDj (by simp at hb; subst hb; exact z)) kall SA6
          have kp6 : Keep Fo H H6 := kp5.trans k6 fun b hb => g b (sub b hb)
          have hD6 : H6 D = some (.lst (ps.map V.ref)) := k6.old _ _ (k45.old _ _ hD4 (.inl (by simp [nDFD]))) (.inl nDs)
          have hFD7 := k6.old _ _ hFD6 (.inl nFDs)
          have hpr6 := k6.prAts (k45.prAts (k4.prAts (k3.prAts hprj)))
          cases b with
          | true => exact iteT ⟨w2, _, _, _, _, true, F, _, rfl, kp6, g, MA6, hD6, hpr6, nDj, hFD7, by rw [List.length_append, List.length_singleton]; omega, nFDj, by rw [Bool.or_true] at r2; exact r2⟩
          | false => exact iteF ⟨w2, _, _, _, _, nj, F, _, rfl, kp6, g, MA6, hD6, hpr6, nDj, hFD7, by rw [List.length_append, List.length_singleton]; omega, nFDj, by rw [Bool.or_false] at r2; exact r2⟩
      · rintro σ H' ⟨w2, w3, w6, w7, Mj, nj, F, fs, rfl, kp, g, MAj, hDj, hprj, nDj, hFDj, hfs, nFDj, hrec⟩
        have hlp : ps.length = (lx ++ ly).length := hprj.length
        rw [List.length_map, hlp, List.drop_length] at hrec
        unfold recv at hrec
        cases hrec
        exact ⟨w2, w3, w6, w7, F, fs, rfl, kp, g, MAj, hFDj, by rw [List.length_map, hlp] at hfs; omega, nFDj⟩
    · rintro σ3 H3 ⟨w2, w3, w6, w7, F3, fs, rfl, kp3, g3, MA3, hFD3, hfs, nFD3⟩
      obtain ⟨dx, sd, ro, sx1, sy1, rs, Fx, Fy, eF, nd, a1, a2, a3, a4, a5, a6⟩ := id MA3
      obtain ⟨en, est⟩ := recv_n e3
      have en : M1.n = M.n := en
      -- self.own_rounds.append(tuple(found))
      refine ⟨_, rfl, t, G.c.meet, dx, _, _, rfl, a1, T.clM, T.nM2, lM2, .inl ⟨rfl, _, SqL.of a3⟩, _, rfl, FD, _, rfl, .inl ⟨SqL.of hFD3, fun tl htl => ?_⟩⟩
      have kn : Keep [] H3 (upd H3 tl (HO.tup fs)) := Keep.new htl _
      have b3 := kn.old _ _ a3 (.inl fun z => nomatch z)
      refine ⟨ro, _, _, rfl, rfl, b3, small1000 (by omega), ?_⟩
      have k34 : Keep [ro, t] H3 (upd (upd H3 tl (HO.tup fs)) ro (HO.lst (rs ++ [V.ref tl]))) := kn.of0.tr (Keep.upd (by simp) b3 id _)
      have c3 : upd (upd H3 tl (HO.tup fs)) ro (HO.lst (rs ++ [V.ref tl])) ro = some (HO.lst (rs ++ [V.ref tl])) := upd_same
      have c1 : upd (upd H3 tl (HO.tup fs)) ro (HO.lst (rs ++ [V.ref tl])) t = some (.ins G.c.meet dx (fM sd ro M1.stuck)) := by
        have : t ≠ ro := ne_of a1 a3 (by intro q; cases q)
        rw [upd_ne this]
        exact kn.old _ _ a1 (.inl fun z => nomatch z)
      generalize upd (upd H3 tl (HO.tup fs)) ro (HO.lst (rs ++ [V.ref tl])) = H4 at k34 c3 c1
      -- self.is_stuck = not is_new
      refine ⟨_, rfl, _, rfl, _, rfl, t, G.c.meet, dx, _, rfl, c1, T.clM, T.nM3, no_len3, ?_⟩
      rw [put_stuck]
      have k45 : Keep [ro, t] H4 (upd H4 t (HO.ins G.c.meet dx (fM sd ro (!nw)))) := Keep.upd (by simp) c1 npur_M _
      have d3 : upd H4 t (HO.ins G.c.meet dx (fM sd ro (!nw))) ro = some (HO.lst (rs ++ [V.ref tl])) := by
        have : ro ≠ t := ne_of c3 c1 (by intro q; cases q)
        rw [upd_ne this]; exact c3
      have d1 : upd H4 t (HO.ins G.c.meet dx (fM sd ro (!nw))) t = some (HO.ins G.c.meet dx (fM sd ro (!nw))) := upd_same
      generalize upd H4 t (HO.ins G.c.meet dx (fM sd ro (!nw))) = H5 at k45 d3 d1
      have k35 := k34.tr k45
      have nFt : FD ≠ t := fun z => nFD3 (by rw [eF, z]; simp)
      have nFr : FD ≠ ro := fun z => nFD3 (by rw [eF, z]; simp)
      have hFD5 := k35.old _ _ hFD3 (.inl (by simp [nFt, nFr]))
      -- return tuple(found)
      refine ⟨_, rfl, FD, _, rfl, .inl ⟨SqL.of hFD5, fun r hr0 => ?_⟩⟩
      have kn5 : Keep [] H5 (upd H5 r (HO.tup fs)) := Keep.new hr0 _
      have kp5 : Keep Fo H H5 := kp3.trans k35 fun b hb => g3 b (by
        rw [eF]
        simp only [List.mem_cons, List.not_mem_nil, or_false] at hb
        rcases hb with rfl | rfl <;> simp)
      refine k _ F3 _ (kp5.tr0 kn5) g3 (kn5.mt (fun _ _ z => nomatch z) ?_)
      have nd' := nd
      rw [eF] at nd'
      simp only [List.nodup_cons, List.mem_cons, not_or, List.mem_append, List.nodup_append] at nd'
      obtain ⟨⟨n1, n2, n3, n4⟩, ⟨n5, n6, n7⟩, ⟨n8, n9⟩, n10, n11, n12⟩ := nd'
      refine ⟨dx, sd, ro, sx1, sy1, rs ++ [V.ref tl], Fx, Fy, eF, nd, d1, k35.old _ _ a2 (.inl (by simp [Ne.symm n1, n5])), d3, by rw [List.length_append, List.length_singleton, a4, en], k35.sd (fun b hb z => ?_) a5, k35.sd (fun b hb z => ?_) a6⟩
      · simp only [List.mem_cons, List.not_mem_nil, or_false] at z
        rcases z with rfl | rfl
        · exact n8 hb
        · exact n3 hb
      · simp only [List.mem_cons, List.not_mem_nil, or_false] at z
        rcases z with rfl | rfl
        · exact n9 hb
        · exact n4 hb
end
end QD

set_option Elab.async false
set_option linter.all false
set_option maxRecDepth 100000
set_option maxHeartbeats 4000000
/-! played, meets, rounds -/
namespace QD
open PySem PySem.Spec PyProof.Rows L2

def spPlayed (G : Gx) : Sp := fun vs H Q _ => ∃ (ex ey : Addr) (q r : Gv × Lt) (M : Mt), vs = [.ref ex, .ref ey] ∧ EndAt G H ex q ∧ EndAt G H ey r ∧ full q r = some M ∧
  ∀ (H' : Hp) (t : Addr) (F : List Addr), Keep [] H H' → MtAt G H' t M F → Q (.ref t) H'
def spMeets (G : Gx) : Sp := fun vs H Q _ => ∃ (ex ey : Addr) (q r : Gv × Lt), vs = [.ref ex, .ref ey] ∧ EndAt G H ex q ∧ EndAt G H ey r ∧ ∀ H' : Hp, Keep [] H H' → Q (.bl (due q r)) H'
def spRounds (G : Gx) : Sp := fun vs H Q _ => ∃ (ex ey : Addr) (q r : Gv × Lt), vs = [.ref ex, .ref ey] ∧ EndAt G H ex q ∧ EndAt G H ey r ∧ ∀ (H' : Hp) (n : Int), Keep [] H H' → Q (if due q r then .int n else .non) H'
theorem scPl : FnScope ["x", "y", "found"] ["x", "y"] (C8.fnScope sPlayed) := C8.fnScope_by (by decide +kernel)
theorem scMe : FnScope ["x", "y", "found"] ["x", "y"] (C8.fnScope sMeets) := C8.fnScope_by (by decide +kernel)
theorem scRd : FnScope ["x", "y", "found"] ["x", "y"] (C8.fnScope sRounds) := C8.fnScope_by (by decide +kernel)
theorem full_some2 (q r : Gv × Lt) : ∃ m, full q r = some m ∧ (m.x.heard && m.y.heard) = due q r ∧ m.n < 900 := by
  have h : (full q r).map (fun m => (m.x.heard && m.y.heard, decide (m.n < 900))) = some (due q r, true) := by
    obtain ⟨g, l⟩ := q
    obtain ⟨g', l'⟩ := r
    cases g <;> cases l <;> cases g' <;> cases l' <;> decide +kernel
  obtain ⟨m, h1, h2⟩ := Option.map_eq_some_iff.mp h
  injection h2 with h3 h4
  exact ⟨m, h1, h3, of_decide_eq_true h4⟩
theorem full_new {q r : Gv × Lt} {M : Mt} (h : full q r = some M) : ∃ M0, Mt.new q r = some M0 ∧ play 5 M0 = some M := by
  unfold full at h
  cases e : Mt.new q r with
  | none => simp only [e] at h; cases h
  | some M0 => simp only [e] at h; exact ⟨M0, rfl, h⟩
theorem play_step {k : Nat} {M M' : Mt} (h : play k M = some M') : (M.over = true ∧ M' = M) ∨ (M.over = false ∧ ∃ j M1, k = j + 1 ∧ M.round = some M1 ∧ play j M1 = some M') := by
  cases k with
  | zero =>
    unfold play at h
    cases e : M.over with
    | true => rw [e, if_pos rfl] at h; cases h; exact .inl ⟨rfl, rfl⟩
    | false => rw [e, if_neg (by decide)] at h; cases h
  | succ j =>
    unfold play at h
    cases e : M.over with
    | true => rw [e, if_pos rfl] at h; cases h; exact .inl ⟨rfl, rfl⟩
    | false =>
      rw [e, if_neg (by decide)] at h
      cases e2 : M.round with
      | none => simp only [e2] at h; cases h
      | some M1 => simp only [e2] at h; exact .inr ⟨rfl, j, M1, rfl, rfl, h⟩
section
variable {G : Gx} {mg : Str → Option Value} {base : Heap}
theorem MtAt.obj {H : Hp} {t : Addr} {M : Mt} {F : List Addr} (h : MtAt G H t M F) : ∃ dx sd ro, H t = some (.ins G.c.meet dx (fM sd ro M.stuck)) := by
  obtain ⟨dx, sd, ro, _, _, _, _, _, _, _, h1, _⟩ := h
  exact ⟨dx, sd, ro, h1⟩
theorem ok_played {f : Addr} {fd : FuncData} (F : C8.Fun G.K "played" "played" sPlayed f fd) (T : Txt G.K mg G.c) (MM : C8.Mak G.P G.w G.K mg base 5 "Meeting" G.c.meet (spMeetI G) [])
    (MO : C8.Met G.P G.w G.K mg base 3 G.c.meet "is_over" (spOver G) []) (MR : C8.Met G.P G.w G.K mg base 5 G.c.meet "round" (spRound G) []) :
    FnOk G.P G.w G.K mg base C8.CX0 7 f fd ["x", "y"] (spPlayed G) := by
  refine C8.fn0 F scPl (fun vs H Q E h => ?_) (fun cdv A outer s H vs Q E hr h => ?_)
  · obtain ⟨ex, ey, q, r, M, rfl, _⟩ := h
    rfl
  · obtain ⟨ex, ey, q, r, M, rfl, hex, hey, hf, k⟩ := h
    refine ⟨_, pss_cons (ps_set (i := 2) scPl.nd rfl (.inl rfl) (C8.pe_mk MM hr (by decide) (by rfl) (pa_cons (pv 0) (pa_cons (pv 1) pa_nil))))
      (pss_cons (ps_while PassesOwn.never (pt_not (pt_val (C8.pe_mt0 MO hr (by decide) (pv 2)))) (pss_one (ps_expr (C8.pe_mt0 MR hr (by decide) (pv 2)))))
      (pss_one (ps_ret (pv 2)))), ?_⟩
    obtain ⟨M0, hM0, hpl⟩ := full_new hf
    refine ⟨_, rfl, _, rfl, ?_⟩
    intro t dx nt ndx nex
    have km : Keep [] H (upd (upd H dx (.own t)) t (.ins G.c.meet dx [])) := Keep.made nt ndx nex
    refine ⟨t, dx, ex, ey, q, r, M0, rfl, upd_same, km.endAt hex, km.endAt hey, hM0, fun H1 F1 k1 f1 MA1 => ⟨rfl, ?_⟩⟩
    have k01 : Keep [] H H1 := km.trans k1 fun b hb => by
      simp only [List.mem_singleton] at hb
      subst hb
      exact .inr nt
    have f01 : ∀ b ∈ F1, H b = none := fun b hb => by
      rcases f1 b hb with rfl | z
      · exact nt
      · exact km.dom b z
    -- while not found.is_over(): found.round()
    refine ⟨fun m σ H' => σ = [some (.ref ex), some (.ref ey), some (.ref t)] ∧ ∃ Mj F, Keep [] H H' ∧ (∀ b ∈ F, H b = none) ∧ MtAt G H' t Mj F ∧ play m Mj = some M, ⟨5, rfl, M0, F1, k01, f01, MA1, hpl⟩, ?_⟩
    rintro m σ H' ⟨rfl, Mj, F, kp, fr, MA, hp⟩
    obtain ⟨dxm, sd, ro, hob⟩ := MA.obj
    refine ⟨_, rfl, t, dxm, _, rfl, hob, by kernel_rfl, t, Mj, F, rfl, MA, _, rfl, ?_⟩
    rcases play_step hp with ⟨ho, rfl⟩ | ⟨ho, j, M2, rfl, hro, hp2⟩
    · rw [ho]
      exact iteF ⟨_, rfl, k H' t F kp MA⟩
    · rw [ho]
      refine iteT ⟨fun σ H' => σ = [some (.ref ex), some (.ref ey), some (.ref t)] ∧ ∃ Mj F, Keep [] H H' ∧ (∀ b ∈ F, H b = none) ∧ MtAt G H' t Mj F ∧ play j Mj = some M, fun σ' H' z => ⟨j, Nat.lt_succ_self _, z⟩, ?_⟩
      refine ⟨_, rfl, t, dxm, _, rfl, hob, by kernel_rfl, t, Mj, M2, F, rfl, MA, ho, hro, fun H2 F2 v k2 g2 MA2 => ?_⟩
      refine ⟨rfl, M2, F2, kp.trans k2 fun b hb => .inr (fr b hb), fun b hb => ?_, MA2, hp2⟩
      rcases g2 b hb with z | z
      · exact fr b z
      · exact kp.dom b z
theorem ok_meets {f : Addr} {fd : FuncData} (F : C8.Fun G.K "meets" "meets" sMeets f fd) (T : Txt G.K mg G.c) (CP : C8.Cal G.P G.w G.K mg base 7 "played" (spPlayed G) []) (MH : C8.Met G.P G.w G.K mg base 2 G.c.meet "heard" (spHeard G) []) :
    FnOk G.P G.w G.K mg base C8.CX0 8 f fd ["x", "y"] (spMeets G) := by
  refine C8.fn0 F scMe (fun vs H Q E h => ?_) (fun cdv A outer s H vs Q E hr h => ?_)
  · obtain ⟨ex, ey, q, r, rfl, _⟩ := h
    rfl
  · obtain ⟨ex, ey, q, r, rfl, hex, hey, k⟩ := h
    refine ⟨_, pss_cons (ps_set (i := 2) scMe.nd rfl (.inl rfl) (C8.pe_c CP hr (by decide) (by rfl) (pa_cons (pv 0) (pa_cons (pv 1) pa_nil))))
      (pss_one (ps_ret (pe_and (C8.pe_mt MH hr (by decide) (pv 2) (pa_cons pe_str pa_nil)) (pe_one (C8.pe_mt MH hr (by decide) (pv 2) (pa_cons pe_str pa_nil)))))), ?_⟩
    obtain ⟨M, hf, hd⟩ := full_some q r
    refine ⟨_, rfl, _, rfl, ex, ey, q, r, M, rfl, hex, hey, hf, fun H' t F kp MA => ?_⟩
    obtain ⟨dxm, sd, ro, hob⟩ := MA.obj
    have z := k H' kp
    rw [← hd] at z
    refine ⟨_, rfl, t, dxm, _, rfl, hob, by kernel_rfl, t, .x, M, F, rfl, (fun z => nomatch z), MA, _, rfl, ?_⟩
    change (if M.x.heard = true then _ else _)
    cases e : M.x.heard with
    | true =>
      rw [e, Bool.true_and] at z
      exact iteT ⟨_, rfl, t, dxm, _, rfl, hob, by kernel_rfl, t, .y, M, F, rfl, (fun z => nomatch z), MA, z⟩
    | false =>
      rw [e, Bool.false_and] at z
      exact iteF z
theorem ok_rounds {f fl : Addr} {fd fdl : FuncData} (F : C8.Fun G.K "rounds" "rounds" sRounds f fd) (T : Txt G.K mg G.c) (CP : C8.Cal G.P G.w G.K mg base 7 "played" (spPlayed G) []) (MH : C8.Met G.P G.w G.K mg base 2 G.c.meet "heard" (spHeard G) [])
    (li : PySem.W.findIn G.K (.ref G.c.meet) "__len__" = some (some (.ref fl))) (lf : PySem.W.isFn G.K (.ref fl) = true) (LF : FnOk G.P G.w G.K mg base C8.CX0 1 fl fdl ["self"] (spMlen G)) (lb : Binds G.K fdl ["self"] []) :
    FnOk G.P G.w G.K mg base C8.CX0 8 f fd ["x", "y"] (spRounds G) := by
  refine C8.fn0 F scRd (fun vs H Q E h => ?_) (fun cdv A outer s H vs Q E hr h => ?_)
  · obtain ⟨ex, ey, q, r, rfl, _⟩ := h
    rfl
  · obtain ⟨ex, ey, q, r, rfl, hex, hey, k⟩ := h
    refine ⟨_, pss_cons (ps_set (i := 2) scRd.nd rfl (.inl rfl) (C8.pe_c CP hr (by decide) (by rfl) (pa_cons (pv 0) (pa_cons (pv 1) pa_nil))))
      (pss_one (ps_ret (pe_ifExp (PW.pt (pw_and (pt_val (C8.pe_mt MH hr (by decide) (pv 2) (pa_cons pe_str pa_nil))) (pw_and1 (pt_val (C8.pe_mt MH hr (by decide) (pv 2) (pa_cons pe_str pa_nil))))))
        (pe_callB (call_lenO li lf LF (hr.mono (by decide)) lb) (by rfl) T.len PySem.boot_len (pa_cons (pv 2) pa_nil)) pe_non))), ?_⟩
    obtain ⟨M, hf, hd, hn⟩ := full_some2 q r
    refine ⟨_, rfl, _, rfl, ex, ey, q, r, M, rfl, hex, hey, hf, fun H' t F kp MA => ?_⟩
    obtain ⟨dxm, sd, ro, hob⟩ := MA.obj
    have z := k H' M.n kp
    rw [← hd] at z
    refine ⟨_, rfl, t, dxm, _, rfl, hob, by kernel_rfl, t, .x, M, F, rfl, (fun z => nomatch z), MA, _, rfl, ?_⟩
    change (if M.x.heard = true then _ else _)
    cases e : M.x.heard with
    | true =>
      rw [e, Bool.true_and] at z
      refine iteT ⟨_, rfl, t, dxm, _, rfl, hob, by kernel_rfl, t, .y, M, F, rfl, (fun z => nomatch z), MA, _, rfl, ?_⟩
      change (if M.y.heard = true then _ else _)
      cases e2 : M.y.heard with
      | true =>
        rw [e2] at z
        refine iteT ⟨_, rfl, t, dxm, _, rfl, hob, t, M, F, rfl, MA, (M.n : Int), rfl, by omega, by omega, z⟩
      | false =>
        rw [e2] at z
        exact iteF z
    | false =>
      rw [e, Bool.false_and] at z
      exact iteF z
end
end QD

set_option Elab.async false
set_option linter.all false
set_option maxRecDepth 100000
set_option maxHeartbeats 4000000
/-! is_filter, Door.__init__, Door.six, End.__init__ -/
namespace QD
open PySem PySem.Spec PyProof.Rows L2

def spIsFil (G : Gx) : Sp := fun vs H Q _ => ∃ l : Lt, vs = [.str l.s] ∧ Q (.bl true) H
def spDoorI (G : Gx) : Sp := fun vs H Q _ => ∃ (d dx : Addr) (q : Gv × Lt), vs = [.ref d, .str q.1.s, .str q.2.s] ∧ H d = some (.ins G.c.door dx []) ∧ ∀ H' : Hp, Keep [d] H H' → DoorAt G H' d q → Q .non H'
def spSix (G : Gx) : Sp := fun vs H Q _ => vs = [] ∧ ∀ (H' : Hp) (t : Addr) (ds : List Addr), Keep [] H H' → H' t = some (.tup (ds.map V.ref)) → Paired (DoorAt G H') ds six → Q (.ref t) H'
def spEnd0 (G : Gx) : Sp := fun vs H Q _ => ∃ (e dx p d : Addr) (q : Gv × Lt), vs = [.ref e, .ref p] ∧ H e = some (.ins G.c.end_ dx []) ∧ SqT G.K H p [.ref d] ∧ DoorAt G H d q ∧ ∀ H' : Hp, Keep [e] H H' → EndAt G H' e q → Q .non H'
def spEndI (G : Gx) : Sp := fun vs H Q E => ∃ ws rest, vs = ws ++ rest ∧ ws.length = (["self"] : List Str).length ∧ rest.length ≤ sizeLine ∧ ∀ p, H p = Option.none → spEnd0 G (ws ++ [V.ref p]) (upd H p (.tup rest)) Q E
theorem scIF : FnScope ["value"] ["value"] (C8.fnScope sIsFil) := C8.fnScope_by (by decide +kernel)
theorem scDI : FnScope ["self", "gives", "lets"] ["self", "gives", "lets"] (C8.fnScope sDoorI) := C8.fnScope_by (by decide +kernel)
theorem scSx : FnScope ["gives", "lets"] [] (C8.fnScope sSix) := C8.fnScope_by (by decide +kernel)
theorem scEI : FnScope ["self", "doors", "door"] ((["self"] : List Str) ++ [("doors" : Str)]) (C8.fnScope sEndI) := C8.fnScope_by (by decide +kernel)
theorem in_maps (g : Gv) : inV (V.str g.s) [V.str "one", V.str "each"] = true := by cases g <;> decide +kernel
theorem in_filters (l : Lt) : inV (V.str l.s) [V.str "any", V.str "house", V.str "door"] = true := by cases l <;> decide +kernel
theorem door_put {g : Gv} {l : Lt} : putF "kept_lets" (V.str l.s) (putF "kept_gives" (V.str g.s) []) = fD g l := by kernel_rfl
theorem end_put {p : Addr} : putF "kept_doors" (V.ref p) [] = fE p := by kernel_rfl
theorem gvs_at {i : Nat} {x : V} (h : ([.str "one", .str "each"] : List V)[i]? = some x) : ∃ g, gvs[i]? = some g ∧ x = .str g.s := by
  match i, h with
  | 0, h => cases h; exact ⟨.one, rfl, rfl⟩
  | 1, h => cases h; exact ⟨.each, rfl, rfl⟩
  | i + 2, h => simp at h
theorem lts_at {i : Nat} {x : V} (h : ([.str "any", .str "house", .str "door"] : List V)[i]? = some x) : ∃ l, lts[i]? = some l ∧ x = .str l.s := by
  match i, h with
  | 0, h => cases h; exact ⟨.any, rfl, rfl⟩
  | 1, h => cases h; exact ⟨.house, rfl, rfl⟩
  | 2, h => cases h; exact ⟨.door, rfl, rfl⟩
  | i + 3, h => simp at h
theorem six_at {i j : Nat} {g : Gv} {l : Lt} (h1 : gvs[i]? = some g) (h2 : lts[j]? = some l) : six[3 * i + j]? = some (g, l) := by
  have hi : i < 2 := (List.getElem?_eq_some_iff.mp h1).1
  have hj : j < 3 := (List.getElem?_eq_some_iff.mp h2).1
  match i, j, hi, hj with
  | 0, 0, _, _ => cases h1; cases h2; rfl
  | 0, 1, _, _ => cases h1; cases h2; rfl
  | 0, 2, _, _ => cases h1; cases h2; rfl
  | 1, 0, _, _ => cases h1; cases h2; rfl
  | 1, 1, _, _ => cases h1; cases h2; rfl
  | 1, 2, _, _ => cases h1; cases h2; rfl
section
variable {G : Gx} {mg : Str → Option Value} {base : Heap}
theorem Keep.doors {Fk : List Addr} {H H' : Hp} (k : Keep Fk H H') : ∀ {ds : List Addr} {qs : List (Gv × Lt)}, Paired (DoorAt G H) ds qs → Paired (DoorAt G H') ds qs
  | _, _, .nil => .nil
  | _, _, .cons r t => .cons (k.door r) (k.doors t)
theorem ok_isfil {f : Addr} {fd : FuncData} (F : C8.Fun G.K "is_filter" "is_filter" sIsFil f fd) (T : Txt G.K mg G.c) : FnOk G.P G.w G.K mg base C8.CX0 1 f fd ["value"] (spIsFil G) := by
  refine C8.fn0 F scIF (fun vs H Q E h => ?_) (fun cdv A outer s H vs Q E hr h => ?_)
  · obtain ⟨l, rfl, _⟩ := h
    rfl
  · obtain ⟨l, rfl, k⟩ := h
    refine ⟨_, pss_one (ps_ret (pe_and (pe_callB call_isi (by rfl) T.isinstance (by decide +kernel) (pa_cons (pv 0) (pa_cons (pe_bltn (v := .ty "str") (by rfl) T.str (by decide +kernel) rfl) pa_nil)))
      (pe_one (pe_cmpR op_in_seq (pv 0) (C8.pe_gc (v := .ref T.filters.choose) rfl ⟨_, T.filters.choose_spec.1, rfl⟩) (by rfl))))), ?_⟩
    refine ⟨_, rfl, _, _, _, _, true, rfl, .ty "str", .base (.str _), kit_ty (by decide +kernel), _, rfl, ?_⟩
    refine iteT ⟨_, rfl, _, _, rfl, .inr T.filters.choose_spec.2.sq, rfl, rfl, ?_⟩
    change Q (V.bl (inV (V.str l.s) [V.str "any", V.str "house", V.str "door"])) H
    rw [in_filters]
    exact k
theorem ok_doorI {f : Addr} {fd : FuncData} (F : C8.Fun G.K "__init__" "Door.__init__" sDoorI f fd) (T : Txt G.K mg G.c) (CF : C8.Cal G.P G.w G.K mg base 1 "is_filter" (spIsFil G) []) :
    FnOk G.P G.w G.K mg base C8.CX0 2 f fd ["self", "gives", "lets"] (spDoorI G) := by
  refine C8.fn0 F scDI (fun vs H Q E h => ?_) (fun cdv A outer s H vs Q E hr h => ?_)
  · obtain ⟨d, dx, q, rfl, _⟩ := h
    rfl
  · obtain ⟨d, dx, q, rfl, hd, k⟩ := h
    refine ⟨_, pss_cons (ps_if (PW.pt (pw_or (pt_not (pt_val (pe_callB call_isi (by rfl) T.isinstance (by decide +kernel) (pa_cons (pv 1) (pa_cons (pe_bltn (v := .ty "str") (by rfl) T.str (by decide +kernel) rfl) pa_nil)))))
          (pw_or1 (pt_cmpR op_notIn_seq (pv 1) (C8.pe_gc (v := .ref T.maps.choose) rfl ⟨_, T.maps.choose_spec.1, rfl⟩) (by rfl))))) (pss_one ps_never) pss_nil)
      (pss_cons (ps_if (pt_not (pt_val (C8.pe_c CF hr (by decide) (by rfl) (pa_cons (pv 2) pa_nil)))) (pss_one ps_never) pss_nil)
      (pss_cons (ps_fld (pv 0) (pv 1) rfl)
      (pss_one (ps_fld (pv 0) (pv 2) rfl)))), ?_⟩
    refine ⟨_, rfl, _, _, _, _, true, rfl, .ty "str", .base (.str _), kit_ty (by decide +kernel), _, rfl, ?_⟩
    refine iteF ⟨_, rfl, _, _, rfl, .inr T.maps.choose_spec.2.sq, rfl, rfl, _, rfl, ?_⟩
    change (if (!inV (V.str q.1.s) [V.str "one", V.str "each"]) = true then _ else _)
    rw [in_maps]
    refine iteF ⟨_, rfl, q.2, rfl, _, rfl, ?_⟩
    refine iteF ⟨_, rfl, _, rfl, d, G.c.door, dx, [], rfl, hd, T.clD, T.nD1, (by show 0 < 1000; decide), ?_⟩
    have k1 : Keep [d] H (upd H d (HO.ins G.c.door dx (putF "kept_gives" (V.str q.1.s) []))) := Keep.upd (by simp) hd npur0 _
    have a1 : upd H d (HO.ins G.c.door dx (putF "kept_gives" (V.str q.1.s) [])) d = some (HO.ins G.c.door dx (putF "kept_gives" (V.str q.1.s) [])) := upd_same
    generalize upd H d (HO.ins G.c.door dx (putF "kept_gives" (V.str q.1.s) [])) = H1 at k1 a1
    refine ⟨_, rfl, _, rfl, d, G.c.door, dx, _, rfl, a1, T.clD, T.nD2, (by show 1 < 1000; decide), ?_⟩
    rw [door_put]
    exact k _ (PI_keep k1 hd npur0 _) ⟨dx, upd_same⟩
theorem ok_six {f : Addr} {fd : FuncData} (F : C8.Fun G.K "six" "Door.six" sSix f fd) (T : Txt G.K mg G.c) (MD : C8.Mak G.P G.w G.K mg base 2 "Door" G.c.door (spDoorI G) []) :
    FnOk G.P G.w G.K mg base C8.CX0 4 f fd [] (spSix G) := by
  refine C8.fn0 F scSx (fun vs H Q E h => ?_) (fun cdv A outer s H vs Q E hr h => ?_)
  · obtain ⟨rfl, _⟩ := h
    rfl
  · obtain ⟨rfl, k⟩ := h
    refine ⟨_, pss_one (ps_ret (pe_callTy call_tuple_of (by rfl) T.tuple (by decide +kernel) (pa_cons (pe_lc2 (own := [("gives", 0), ("lets", 1)]) (vs1 := [1]) (g := gName 0) (tt := tYes) (g1 := gName 1) (tt1 := tYes) (wi1 := iTup G.K (tC (.ref T.filters.choose))) rfl scSx.nd
        (pi_tup (C8.pe_gc (v := .ref T.maps.choose) rfl ⟨_, T.maps.choose_spec.1, rfl⟩)) (blkOk_by (own := [("gives", 0), ("lets", 1)]) (N := ["gives", "lets"]) (sc := C8.fnScope sSix) (by decide +kernel)) (by decide)
        (fun _ _ _ _ _ => pg_name (i := 0) scSx.nd rfl (.inl rfl)) (fun _ _ _ _ _ => pts_nil)
        (fun _ _ _ _ _ => (pi_tup (C8.pe_gc (v := .ref T.filters.choose) rfl ⟨_, T.filters.choose_spec.1, rfl⟩)))
        (fun _ _ _ _ _ => pg_name (i := 1) scSx.nd rfl (.inl rfl)) (fun _ _ _ _ _ => pts_nil)
        (fun _ _ _ _ _ => C8.pe_mk MD hr (by decide) (by rfl) (pa_cons (pv 0) (pa_cons (pv 1) pa_nil)))) pa_nil))), ?_⟩
    have Pv : Nat → Hp → Prop := fun _ _ => True
    refine ⟨T.maps.choose, rfl, ⟨_, T.maps.choose_spec.2.sq⟩, fun D hD => ?_⟩
    refine ⟨fun i m H' => m = 2 - i ∧ i ≤ 2 ∧ Keep [] H H' ∧ ∃ ds : List Addr, H' D = some (.lst (ds.map V.ref)) ∧ Paired (DoorAt G H') ds (six.take (3 * i)), ⟨2, rfl, by decide, Keep.new hD _, [], upd_same, .nil⟩, ?_⟩
    rintro i m H' ⟨rfl, hi, kp, ds, hds, hpr⟩
    by_cases hlt : i < 2
    · refine .inr ⟨⟨_, _, T.maps.choose_spec.2.sq, List.getElem?_eq_getElem (by show i < 2; exact hlt)⟩, fun H' => Keep [] H H' ∧ ∃ ds : List Addr, H' D = some (.lst (ds.map V.ref)) ∧ Paired (DoorAt G H') ds (six.take (3 * (i + 1))), fun H' z => ⟨2 - (i + 1), by omega, rfl, hlt, z⟩, ?_⟩
      rintro x H2 ⟨rfl, hx⟩
      obtain ⟨g, hg, rfl⟩ := gvs_at (hx _ T.maps.choose_spec.2.sq)
      refine ⟨rfl, ?_⟩
      simp only [tYes, ↓reduceIte]
      refine ⟨T.filters.choose, rfl, ⟨_, T.filters.choose_spec.2.sq⟩, fun j m H' => m = 3 - j ∧ j ≤ 3 ∧ Keep [] H H' ∧ ∃ ds : List Addr, H' D = some (.lst (ds.map V.ref)) ∧ Paired (DoorAt G H') ds (six.take (3 * i + j)), ⟨3, rfl, by decide, kp, ds, hds, hpr⟩, ?_⟩
      rintro j m H3 ⟨rfl, hj, kp3, ds3, hds3, hpr3⟩
      by_cases hlt3 : j < 3
      · refine .inr ⟨⟨_, _, T.filters.choose_spec.2.sq, List.getElem?_eq_getElem (by show j < 3; exact hlt3)⟩, fun H' => Keep [] H H' ∧ ∃ ds : List Addr, H' D = some (.lst (ds.map V.ref)) ∧ Paired (DoorAt G H') ds (six.take (3 * i + (j + 1))), fun H' z => ⟨3 - (j + 1), by omega, rfl, hlt3, z⟩, ?_⟩
        rintro y H4 ⟨rfl, hy⟩
        obtain ⟨l, hl, rfl⟩ := lts_at (hy _ T.filters.choose_spec.2.sq)
        have h6 := six_at hg hl
        have hlen : ds3.length = 3 * i + j := by
          rw [hpr3.length, List.length_take]
          have : six.length = 6 := rfl
          omega
        refine ⟨rfl, ?_⟩
        simp only [tYes, ↓reduceIte]
        refine ⟨_, rfl, _, rfl, ?_⟩
        intro d dx nd ndx nex
        have km : Keep [] H4 (upd (upd H4 dx (.own d)) d (.ins G.c.door dx [])) := Keep.made nd ndx nex
        refine ⟨d, dx, (g, l), rfl, upd_same, fun H5 k5 DA => ⟨rfl, ?_⟩⟩
        have k45 : Keep [] H4 H5 := km.trans k5 fun b hb => by
          simp only [List.mem_singleton] at hb
          subst hb
          exact .inr nd
        have hD5 := k45.old _ _ hds3 (.inl fun z => nomatch z)
        refine ⟨_, hD5, small1000 (by rw [List.length_map]; omega), ?_⟩
        have kD : Keep [D] H5 (upd H5 D (HO.lst (ds3.map V.ref ++ [V.ref d]))) := Keep.upd (by simp) hD5 id _
        refine ⟨(kp3.tr k45).updNew hD _, ds3 ++ [d], by rw [upd_same, List.map_append] <;> rfl, ?_⟩
        have et : six.take (3 * i + (j + 1)) = six.take (3 * i + j) ++ [(g, l)] := by
          rw [← Nat.add_assoc, List.take_add_one, h6] <;> rfl
        rw [et]
        exact Paired.snoc (kD.doors (k45.doors hpr3)) (kD.door DA)
      · have e : j = 3 := by omega
        subst e
        exact .inl ⟨⟨_, T.filters.choose_spec.2.sq, Nat.le_refl _⟩, kp3, ds3, hds3, hpr3⟩
    · have e : i = 2 := by omega
      subst e
      refine .inl ⟨⟨_, T.maps.choose_spec.2.sq, Nat.le_refl _⟩, D, _, rfl, .inl ⟨SqL.of hds, fun t ht => ?_⟩⟩
      have kt : Keep [] H' (upd H' t (HO.tup (ds.map V.ref))) := Keep.new ht _
      exact k _ t ds (kp.tr kt) upd_same (kt.doors hpr)
theorem ok_endI {f : Addr} {oc : Value} {od an : Option Addr} {dV kV doc pm cdv ct : Value} {osl : Array (Option Value)} (lk : G.K.lookup f = some ⟨oc, od, .func (PySem.W.fnOf "__init__" "End.__init__" (C8.fnArgs sEndI) (C8.fnBody sEndI) (C8.fnScope sEndI) dV kV doc pm an cdv ct), osl⟩)
    (hcd : PySem.W.codeIn G.K cdv "End.__init__" = true) (hb : ∀ us rest : List Value, us.length = (["self"] : List Str).length → bindArgs (PySem.W.fnOf "__init__" "End.__init__" (C8.fnArgs sEndI) (C8.fnBody sEndI) (C8.fnScope sEndI) dV kV doc pm an cdv ct) ⟨us ++ rest, []⟩ = (newTuple rest >>= fun t => pure ((["self"] : List Str).zip us ++ [(("doors" : Str), t)])))
    (T : Txt G.K mg G.c) : FnR G.P G.w G.K mg base C8.CX0 2 f (spEndI G) := by
  refine StX.fn_star lk hcd scEI StX.cxUp_none hb fun A outer s H vs Q E hr h => ?_
  obtain ⟨e, dx, p, d, q, rfl, he, hp, hd, k⟩ := h
  have body : ∃ t, PSs (cxOf C8.CX0 G.P G.w G.K mg base ["self", "doors", "door"] "End.__init__" (C8.fnScope sEndI) f cdv A outer s H E).nox (C8.fnBody sEndI) t ∧ t { nx := fun _ H' => Q .non H', rt := Q } (start ["self", "doors", "door"] [.ref e, .ref p]) H := by
    refine ⟨_, pss_cons (ps_if (PW.pt (pw_or (pt_not (pt_chain op_le op_le pe_int (pe_callB call_len_seq (by rfl) T.len PySem.boot_len (pa_cons (pv 1) pa_nil)) (C8.pe_gc (v := .int 3) rfl ⟨_, T.most.choose_spec, ⟨_, rfl⟩⟩)))
          (pw_or1 (pt_not (pt_val (pe_callB (cr_all rfl) (by rfl) T.all (by decide +kernel) (pa_cons
            (pe_lc (own := [("door", 2)]) (g := gName 2) (tt := tYes) rfl scEI.nd (pi_tup (pv 1)) (blkOk_by (own := [("door", 2)]) (N := ["self", "doors", "door"]) (sc := C8.fnScope sEndI) (by decide +kernel))
              (fun _ _ _ _ _ => pg_name (i := 2) scEI.nd rfl (.inl rfl)) (fun _ _ _ _ _ => pts_nil)
              (fun _ _ _ _ _ => (pe_callB (C8.call_isC T.icD) (by rfl) T.isinstance (by decide +kernel) (pa_cons (pv 2) (pa_cons (C8.pe_gc (v := .ref G.c.door) rfl ⟨_, T.mgD, rfl⟩) pa_nil))))) pa_nil))))))) (pss_one ps_never) pss_nil)
      (pss_one (ps_fld (pv 0) (pv 1) rfl)), ?_⟩
    obtain ⟨dd, hdd⟩ := id hd
    refine ⟨_, rfl, p, _, rfl, .inr hp, _, _, rfl, rfl, _, rfl, ?_⟩
    have e1 : decide ((1 : Int) ≤ (([V.ref d] : List V).length : Nat)) = true := rfl
    have e2 : decide ((([V.ref d] : List V).length : Nat) ≤ (3 : Int)) = true := rfl
    rw [e1]
    refine iteT ⟨_, _, rfl, rfl, _, rfl, ?_⟩
    rw [e2]
    refine iteF ⟨_, rfl, p, rfl, ⟨_, hp⟩, fun D hD => ?_⟩
    refine lc_tup (K := G.K) (a := p) (xs := [V.ref d]) (fun i H' => Keep [] H H' ∧ H' D = some (.lst ((List.replicate i true).map V.bl))) ⟨Keep.new hD _, upd_same⟩ (fun i H' _ ⟨kp, _⟩ => kp.sqt hp) ?_ ?_
    · rintro i x H' hx ⟨kp, hD'⟩
      match i, hx, hD' with
      | 0, hx, hD' =>
        have hx : V.ref d = x := Option.some.inj hx
        subst hx
        refine ⟨rfl, ?_⟩
        simp only [tYes, ↓reduceIte]
        exact ⟨_, rfl, d, dd, _, rfl, kp.old _ _ hdd (.inr pur_D), _, hD', by decide, kp.updNew hD _, upd_same⟩
      | i + 1, hx, _ => simp at hx
    · rintro H' ⟨kp, hD'⟩
      refine ⟨D, [true], rfl, SqL.of hD', _, rfl, ?_⟩
      refine iteF ⟨_, rfl, _, rfl, e, G.c.end_, dx, [], rfl, kp.old _ _ he (.inl fun z => nomatch z), T.clE, T.nE1, (by show 0 < 1000; decide), ?_⟩
      rw [end_put]
      have k2 : Keep [e] H (upd H' e (HO.ins G.c.end_ dx (fE p))) := PI_keep kp.of0 he npur0 _
      exact k _ k2 ⟨dx, p, d, upd_same, k2.sqt hp, k2.door hd⟩
  obtain ⟨t, h1, h2⟩ := body
  exact ⟨t, h1.nox, h2⟩
end
end QD

set_option Elab.async false
set_option linter.all false
set_option maxRecDepth 100000
set_option maxHeartbeats 4000000
/-! The law's own helpers: _law_begin, _law_mixed, _law_draw, _law_due -/
namespace QD
open PySem PySem.Spec PyProof.Rows L2

theorem mem_cut {xs : List V} {lo hi : Option Int} {x : V} (h : x ∈ cutV xs lo hi) : x ∈ xs := List.mem_of_mem_drop (List.mem_of_mem_take h)
def PoolAt (H : Hp) (p l : Addr) (zs : List Int) (j : Nat) : Prop := ∃ c s k : Int, H p = some (.lst [.ref l, .int (j : Int), .int c, .int s, .int k]) ∧ H l = some (.lst (zs.map V.int))
def spBegin (G : Gx) : Sp := fun vs H Q _ => ∃ (a : Addr) (ns : List Int), vs = [.ref a] ∧ SqL G.K H a (ns.map V.int) ∧ ns.length ≤ 63 ∧ ∀ (H' : Hp) (p l : Addr) (zs : List Int), Keep [] H H' → PoolAt H' p l zs 0 → H p = none → H l = none → Q (.ref p) H'
def spMixed (G : Gx) : Sp := fun vs H Q _ => ∃ (p : Addr) (x0 x1 x4 : V) (c s : Int), vs = [.ref p, .int 6] ∧ H p = some (.lst [x0, x1, .int c, .int s, x4]) ∧ ∀ (H' : Hp) (n : Nat), n < 6 → Keep [p] H H' → Q (.int (n : Int)) H'
def spDraw (G : Gx) : Sp := fun vs H Q _ => ∃ (p l : Addr) (zs : List Int) (j : Nat), vs = [.ref p, .int 6] ∧ PoolAt H p l zs j ∧ ∀ (H' : Hp) (n : Nat), n < 6 → Keep [p, l] H H' → Q (.int (n : Int)) H'
def vQ (q : Gv × Lt) : List V := [.str q.1.s, .str q.2.s]
def spDue (G : Gx) : Sp := fun vs H Q _ => ∃ (a b : Addr) (q r : Gv × Lt), vs = [.ref a, .ref b] ∧ SqT G.K H a (vQ q) ∧ SqT G.K H b (vQ r) ∧ ∀ H' : Hp, Keep [] H H' → Q (.bl (due q r)) H'
theorem scBe : FnScope ["_law_script", "_law_seed", "_law_cell"] ["_law_script"] (C8.fnScope sBegin) := C8.fnScope_by (by decide +kernel)
theorem scMx : FnScope ["_law_pool", "_law_many", "_law_found", "_law_turn"] ["_law_pool", "_law_many"] (C8.fnScope sMixed) := C8.fnScope_by (by decide +kernel)
theorem scDr : FnScope ["_law_pool", "_law_many", "_law_found"] ["_law_pool", "_law_many"] (C8.fnScope sDraw) := C8.fnScope_by (by decide +kernel)
theorem scDu : FnScope ["_law_one", "_law_other", "_law_first", "_law_second"] ["_law_one", "_law_other"] (C8.fnScope sDue) := C8.fnScope_by (by decide +kernel)
section
variable {G : Gx} {mg : Str → Option Value} {base : Heap}
theorem ok_begin {f : Addr} {fd : FuncData} (F : C8.Fun G.K "_law_begin" "_law_begin" sBegin f fd) (T : Txt G.K mg G.c) : FnOk G.P G.w G.K mg base C8.CX0 1 f fd ["_law_script"] (spBegin G) := by
  refine C8.fn0 F scBe (fun vs H Q E h => ?_) (fun cdv A outer s H vs Q E hr h => ?_)
  · obtain ⟨a, ns, rfl, _⟩ := h
    rfl
  · obtain ⟨a, ns, rfl, hS, hlen, k⟩ := h
    refine ⟨_, pss_cons (ps_set (i := 1) scBe.nd rfl (.inl rfl) pe_int)
      (C8.pss_cut (ps_for PassesOwn.never rfl (pi_list (pe_slice sl_list (pv 0) po_none (po_some pe_int))) (pg_name (i := 2) scBe.nd rfl (.inl rfl))
        (pss_one (ps_set (i := 1) scBe.nd rfl (.inl rfl) (pe_op op_mod (pe_op op_add (pe_op op_add (pe_op op_mul (pv 1) pe_int) (pe_op op_mod (pe_callTy call_int1 (by rfl) T.int (by decide +kernel) (pa_cons (pv 2) pa_nil)) pe_int)) pe_int) pe_int))))
      (pss_one (ps_ret (pe_lst (pa_cons (pe_lc (own := [("_law_cell", 2)]) (g := gName 2) (tt := tYes) rfl scBe.nd (pi_list (pv 0)) (blkOk_by (own := [("_law_cell", 2)]) (N := ["_law_script", "_law_seed", "_law_cell"]) (sc := C8.fnScope sBegin) (by decide +kernel))
          (fun _ _ _ _ _ => pg_name (i := 2) scBe.nd rfl (.inl rfl)) (fun _ _ _ _ _ => pts_nil)
          (fun _ _ _ _ _ => pe_callB call_abs (by rfl) T.abs (by decide +kernel) (pa_cons (pe_callTy call_int1 (by rfl) T.int (by decide +kernel) (pa_cons (pv 2) pa_nil)) pa_nil)))
        (pa_cons pe_int (pa_cons pe_int (pa_cons (pv 1) (pa_cons pe_int pa_nil))))))))), ?_⟩
    refine ⟨fun σ' H' => ∃ (z : Int) (v : Option V), σ' = [some (.ref a), some (.int z), v] ∧ Keep [] H H', ?_, ?_⟩
    · refine ⟨_, rfl, _, rfl, a, _, rfl, hS, fun sl hsl => ⟨sl, rfl, ⟨_, SqL.of upd_same⟩, for_list (K := G.K) (a := sl) (xs := cutV (ns.map V.int) none (some 40)) (fun i σ H' => ∃ (z : Int) (v : Option V), σ = [some (.ref a), some (.int z), v] ∧ Keep [] H H' ∧ H' sl = some (.lst (cutV (ns.map V.int) none (some 40)))) ?_ ?_ ?_ ?_⟩⟩
      · exact ⟨7, none, rfl, Keep.new hsl _, upd_same⟩
      · rintro i σ H' _ ⟨_, _, _, _, e⟩
        exact SqL.of e
      · rintro i x σ H' hx ⟨z, v, rfl, kp, e⟩
        obtain ⟨n, _, rfl⟩ := List.mem_map.mp (mem_cut (List.mem_of_getElem? hx))
        refine ⟨_, rfl, _, _, rfl, rfl, .inr ⟨by decide, by decide⟩, _, rfl, .inl ⟨n, rfl, _, _, rfl, rfl, (by show (0 : Int) < 2147483647; decide), _, _, rfl, rfl, _, _, rfl, rfl, _, _, rfl, rfl, (by show (0 : Int) < 2147483647; decide), ?_⟩⟩
        exact ⟨_, _, rfl, kp, e⟩
      · rintro σ H' ⟨z, v, rfl, kp, _⟩
        exact ⟨z, v, rfl, kp⟩
    · rintro σ1 H1 ⟨z, v, rfl, kp⟩
      have hS1 := (kp.same).seq hS
      refine ⟨_, rfl, a, rfl, ⟨_, hS1⟩, fun l hl => ?_⟩
      refine lc_list (K := G.K) (a := a) (xs := ns.map V.int) (fun i H' => Keep [] H1 H' ∧ ∃ zs : List Int, zs.length = i ∧ H' l = some (.lst (zs.map V.int))) ⟨Keep.new hl _, [], rfl, upd_same⟩ (fun i H' _ ⟨k2, _⟩ => (k2.same).seq hS1) ?_ ?_
      · rintro i x H' hx ⟨k2, zs, hz, e⟩
        have hil : i < (ns.map V.int).length := (List.getElem?_eq_some_iff.mp hx).1
        rw [List.length_map] at hil
        obtain ⟨n, _, rfl⟩ := List.mem_map.mp (List.mem_of_getElem? hx)
        refine ⟨rfl, ?_⟩
        simp only [tYes, ↓reduceIte]
        refine ⟨_, rfl, .inl ⟨n, rfl, n, rfl, _, e, small1000 (by rw [List.length_map]; omega), k2.updNew hl _, zs ++ [if n < 0 then -n else n], by rw [List.length_append, hz] <;> rfl, by rw [upd_same, List.map_append] <;> rfl⟩⟩
      · rintro H2 ⟨k2, zs, hz, e⟩
        refine ⟨_, rfl, (by show 5 ≤ sizeLine; decide), fun p hp => ?_⟩
        have nl : l ≠ p := ne_of_none e hp
        exact k _ p l zs ((kp.tr k2).tr (Keep.new hp _)) ⟨0, z, 0, upd_same, by rw [upd_ne nl]; exact e⟩ ((kp.tr k2).dom _ hp) (kp.dom _ hl)
theorem len6 : (PySem.Str.ofString (toString (6 : Int))).length = 1 := by decide +kernel
theorem ok_mixed {f : Addr} {fd : FuncData} (F : C8.Fun G.K "_law_mixed" "_law_mixed" sMixed f fd) (T : Txt G.K mg G.c) : FnOk G.P G.w G.K mg base C8.CX0 1 f fd ["_law_pool", "_law_many"] (spMixed G) := by
  refine C8.fn0 F scMx (fun vs H Q E h => ?_) (fun cdv A outer s H vs Q E hr h => ?_)
  · obtain ⟨p, x0, x1, x4, c, s, rfl, _⟩ := h
    rfl
  · obtain ⟨p, x0, x1, x4, c, sd, rfl, hp, k⟩ := h
    refine ⟨_, pss_cons (ps_asg (pe_op op_add (pe_ix ix_list (pv 0) pe_int (fun _ _ => rfl)) pe_int) (pg_sub (pv 0) pe_int set_list))
      (pss_cons (ps_set (i := 2) scMx.nd rfl (.inl rfl) (pe_ix ix_list (pv 0) pe_int (fun _ _ => rfl)))
      (C8.pss_cut (ps_for PassesOwn.never rfl (pi_range1 (by rfl) T.range (pa_cons (pe_op op_add pe_int (pe_op op_fdiv (pe_callB call_len_str (by rfl) T.len PySem.boot_len (pa_cons (pe_callTy call_str_int (by rfl) T.str (by decide +kernel) (pa_cons (pv 1) pa_nil)) pa_nil)) pe_int)) pa_nil)) (pg_name (i := 3) scMx.nd rfl (.inl rfl))
        (pss_cons (ps_asg (pe_op op_mod (pe_op op_add (pe_op op_add (pe_op op_mul (pe_ix ix_list (pv 0) pe_int (fun _ _ => rfl)) pe_int) (pe_op op_mul (pe_ix ix_list (pv 0) pe_int (fun _ _ => rfl)) pe_int)) pe_int) pe_int) (pg_sub (pv 0) pe_int set_list))
        (pss_one (ps_set (i := 2) scMx.nd rfl (.inl rfl) (pe_op op_add (pe_op op_mul (pv 2) pe_int) (pe_op op_fdiv (pe_ix ix_list (pv 0) pe_int (fun _ _ => rfl)) pe_int))))))
      (pss_one (ps_ret (pe_op op_mod (pv 2) (pv 1)))))), ?_⟩
    -- pool[2] = pool[2] + 1
    refine ⟨_, rfl, p, _, _, _, rfl, rfl, SqL.of hp, atI_nat (j := 2) rfl, _, _, rfl, rfl, _, rfl, p, _, _, 2, rfl, rfl, hp, rfl, ?_⟩
    have k1 : Keep [p] H (upd H p (.lst [x0, x1, .int (c + 1), .int sd, x4])) := Keep.upd (by simp) hp id _
    have h1 : upd H p (.lst [x0, x1, .int (c + 1), .int sd, x4]) p = some (.lst [x0, x1, .int (c + 1), .int sd, x4]) := upd_same
    change tSeq _ _ _ _ (upd H p (.lst [x0, x1, .int (c + 1), .int sd, x4]))
    generalize upd H p (.lst [x0, x1, .int (c + 1), .int sd, x4]) = H1 at k1 h1
    clear hp
    have hp := h1
    -- found = pool[3]; the loop
    refine ⟨_, rfl, p, _, _, _, rfl, rfl, SqL.of hp, atI_nat (j := 3) rfl, ?_⟩
    refine ⟨fun σ' H' => ∃ (f : Int) (v : Option V), σ' = [some (.ref p), some (.int 6), some (.int f), v] ∧ Keep [p] H H', ?_, ?_⟩
    · refine ⟨_, rfl, 6, rfl, by decide, _, rfl, (by rw [len6]; decide), _, _, rfl, rfl, (by show (0 : Int) < 9 ∧ (9 : Int) < 1073741824; decide), _, _, rfl, rfl, _, rfl, ?_⟩
      rw [len6]
      refine ⟨by decide, by decide, for_range (lo := 0) (n := 1) (fun i σ H' => ∃ (c s f : Int) (v : Option V), σ = [some (.ref p), some (.int 6), some (.int f), v] ∧ Keep [p] H H' ∧ H' p = some (.lst [x0, x1, .int c, .int s, x4])) ⟨_, _, _, none, rfl, k1, hp⟩ ?_ ?_⟩
      · rintro i σ H' _ ⟨c', s', f', v, rfl, kp, hp⟩
        refine ⟨_, rfl, p, _, _, _, rfl, rfl, SqL.of hp, atI_nat (j := 3) rfl, _, _, rfl, rfl, .inr ⟨by decide, by decide⟩, _, rfl, p, _, _, _, rfl, rfl, SqL.of hp, atI_nat (j := 2) rfl, _, _, rfl, rfl, .inr ⟨by decide, by decide⟩, _, _, rfl, rfl, _, _, rfl, rfl, _, _, rfl, rfl, (by show (0 : Int) < 2147483647; decide), _, rfl, p, _, _, 3, rfl, rfl, hp, rfl, ?_⟩
        refine ⟨_, rfl, _, _, rfl, rfl, .inr ⟨by decide, by decide⟩, _, rfl, p, _, _, _, rfl, rfl, SqL.of upd_same, atI_nat (j := 3) rfl, _, _, rfl, rfl, (by show (0 : Int) < 7 ∧ (7 : Int) < 1073741824; decide), _, _, rfl, rfl, ?_⟩
        exact ⟨_, _, _, _, rfl, kp.tr (Keep.upd (by simp) hp id _), upd_same⟩
      · rintro σ H' ⟨c', s', f', v, rfl, kp, _⟩
        exact ⟨f', v, rfl, kp⟩
    · rintro σ2 H2 ⟨f', v, rfl, kp⟩
      refine ⟨_, rfl, _, rfl, _, _, rfl, rfl, (by show (0 : Int) < 6; decide), ?_⟩
      have z1 : (0 : Int) ≤ f' % 6 := Int.emod_nonneg _ (by decide)
      have z2 : f' % 6 < 6 := Int.emod_lt_of_pos _ (by decide)
      obtain ⟨n, hn⟩ : ∃ n : Nat, f' % 6 = (n : Int) := ⟨(f' % 6).toNat, by omega⟩
      change Q (V.int (f' % 6)) H2
      rw [hn]
      exact k H2 n (by omega) kp
end
end QD

set_option Elab.async false
set_option linter.all false
set_option maxRecDepth 100000
set_option maxHeartbeats 4000000
/-! The law's own helpers: _law_draw, _law_due -/
namespace QD
open PySem PySem.Spec PyProof.Rows L2

section
variable {G : Gx} {mg : Str → Option Value} {base : Heap}
theorem ok_draw {f : Addr} {fd : FuncData} (F : C8.Fun G.K "_law_draw" "_law_draw" sDraw f fd) (T : Txt G.K mg G.c) (CM : C8.Cal G.P G.w G.K mg base 1 "_law_mixed" (spMixed G) []) : FnOk G.P G.w G.K mg base C8.CX0 2 f fd ["_law_pool", "_law_many"] (spDraw G) := by
  refine C8.fn0 F scDr (fun vs H Q E h => ?_) (fun cdv A outer s H vs Q E hr h => ?_)
  · obtain ⟨p, l, zs, j, rfl, _⟩ := h
    rfl
  · obtain ⟨p, l, zs, j, rfl, ⟨c, sd, kk, hp, hl⟩, k⟩ := h
    have npl : p ≠ l := by
      rintro rfl
      rw [hp] at hl
      have e := Option.some.inj hl
      injection e with e
      cases zs with
      | nil => cases e
      | cons z zs =>
        rw [List.map_cons] at e
        injection e with e1 e2
        cases e1
    refine ⟨_, pss_cons (ps_if (PW.pt (pw_or (pt_cmpR op_ge (pe_ix ix_list (pv 0) pe_int (fun _ _ => rfl)) (pe_callB call_len_seq (by rfl) T.len PySem.boot_len (pa_cons (pe_ix ix_list (pv 0) pe_int (fun _ _ => rfl)) pa_nil)) (nomark _)) (pw_or1 (pt_cmpR op_eq (pv 1) pe_int (nomark _)))))
        (pss_one (ps_ret (pe_ifExp (pt_cmpR op_gt (pv 1) pe_int (nomark _)) (C8.pe_c CM hr (by decide) (by rfl) (pa_cons (pv 0) (pa_cons (pv 1) pa_nil))) pe_int))) pss_nil)
      (pss_cons (ps_if (pt_cmpR op_lt (pe_ix ix_list (pe_ix ix_list (pv 0) pe_int (fun _ _ => rfl)) (pe_ix ix_list (pv 0) pe_int (fun _ _ => rfl)) (fun _ _ => rfl)) (pe_op op_pow pe_int pe_int) (nomark _))
        (pss_cons (ps_asg (pe_op op_mod (pe_op op_add (pe_op op_add (pe_op op_add (pe_op op_mul (pe_ix ix_list (pv 0) pe_int (fun _ _ => rfl)) pe_int) (pe_ix ix_list (pe_ix ix_list (pv 0) pe_int (fun _ _ => rfl)) (pe_ix ix_list (pv 0) pe_int (fun _ _ => rfl)) (fun _ _ => rfl))) (pe_ix ix_list (pv 0) pe_int (fun _ _ => rfl))) pe_int) pe_int) (pg_sub (pv 0) pe_int set_list))
        (pss_cons (ps_asg (pe_op op_add (pe_ix ix_list (pv 0) pe_int (fun _ _ => rfl)) pe_int) (pg_sub (pv 0) pe_int set_list))
        (C8.pss_cut (ps_if (pt_cmpR op_eq (pe_op op_mod (pe_ix ix_list (pv 0) pe_int (fun _ _ => rfl)) pe_int) pe_int (nomark _)) (pss_one (ps_asg (pe_op op_add (pe_ix ix_list (pv 0) pe_int (fun _ _ => rfl)) pe_int) (pg_sub (pv 0) pe_int set_list))) pss_nil)
        (pss_one (ps_ret (C8.pe_c CM hr (by decide) (by rfl) (pa_cons (pv 0) (pa_cons (pv 1) pa_nil)))))))) pss_nil)
      (pss_cons (ps_set (i := 2) scDr.nd rfl (.inl rfl) (pe_op op_mod (pe_ix ix_list (pe_ix ix_list (pv 0) pe_int (fun _ _ => rfl)) (pe_ix ix_list (pv 0) pe_int (fun _ _ => rfl)) (fun _ _ => rfl)) (pv 1)))
      (pss_cons (ps_asg (pe_op op_fdiv (pe_ix ix_list (pe_ix ix_list (pv 0) pe_int (fun _ _ => rfl)) (pe_ix ix_list (pv 0) pe_int (fun _ _ => rfl)) (fun _ _ => rfl)) (pv 1)) (pg_sub (pe_ix ix_list (pv 0) pe_int (fun _ _ => rfl)) (pe_ix ix_list (pv 0) pe_int (fun _ _ => rfl)) set_list))
      (C8.pss_cut (ps_if (pt_cmpR op_eq (pe_ix ix_list (pe_ix ix_list (pv 0) pe_int (fun _ _ => rfl)) (pe_ix ix_list (pv 0) pe_int (fun _ _ => rfl)) (fun _ _ => rfl)) pe_int (nomark _)) (pss_one (ps_asg (pe_op op_add (pe_ix ix_list (pv 0) pe_int (fun _ _ => rfl)) pe_int) (pg_sub (pv 0) pe_int set_list))) pss_nil)
      (pss_one (ps_ret (pv 2))))))), ?_⟩
    refine ⟨_, rfl, p, _, _, _, rfl, rfl, SqL.of hp, atI_nat (j := 1) rfl, _, rfl, p, _, _, _, rfl, rfl, SqL.of hp, atI_nat (j := 0) rfl, l, _, rfl, .inl (SqL.of hl), _, _, rfl, rfl, _, rfl, ?_⟩
    refine ite2 (fun hq => ?_) (fun hq => ?_)
    · refine iteT ⟨_, rfl, _, _, rfl, rfl, _, rfl, ?_⟩
      rw [show decide ((1 : Int) < 6) = true from rfl]
      exact iteT ⟨_, rfl, _, rfl, p, _, _, _, _, _, rfl, hp, fun H' n hn kp => k H' n hn (kp.mono (by simp +contextual))⟩
    have hj : j < zs.length := by
      have hq := of_decide_eq_false (Bool.eq_false_iff.mpr hq)
      rw [List.length_map] at hq
      omega
    have hcell : (zs.map V.int)[j]? = some (.int zs[j]) := by rw [List.getElem?_map, List.getElem?_eq_getElem hj] <;> rfl
    refine ⟨_, rfl, rfl, _, rfl, ?_⟩
    rw [show decide (V.int 6 = V.int 1) = false from by decide]
    refine iteF ?_
    -- if pool[0][pool[1]] < 10 ** 18
    refine ⟨_, rfl, p, _, _, _, rfl, rfl, SqL.of hp, atI_nat (j := 0) rfl, _, rfl, p, _, _, _, rfl, rfl, SqL.of hp, atI_nat (j := 1) rfl, l, _, _, _, rfl, rfl, SqL.of hl, atI_nat (j := j) hcell, _, _, rfl, rfl, (by show (0 : Int) ≤ 18 ∧ (18 : Int) ≤ 1000000 ∧ (10 : Int).natAbs < 2 ^ 64; decide), _, _, rfl, rfl, _, rfl, ?_⟩
    refine ite2 (fun hq2 => ?_) (fun hq2 => ?_)
    · refine ⟨_, rfl, p, _, _, _, rfl, rfl, SqL.of hp, atI_nat (j := 3) rfl, _, _, rfl, rfl, .inr ⟨by decide, by decide⟩, _, rfl, p, _, _, _, rfl, rfl, SqL.of hp, atI_nat (j := 0) rfl, _, rfl, p, _, _, _, rfl, rfl, SqL.of hp, atI_nat (j := 1) rfl, l, _, _, _, rfl, rfl, SqL.of hl, atI_nat (j := j) hcell, _, _, rfl, rfl, _, rfl, p, _, _, _, rfl, rfl, SqL.of hp, atI_nat (j := 2) rfl, _, _, rfl, rfl, _, _, rfl, rfl, _, _, rfl, rfl, (by show (0 : Int) < 2147483647; decide), _, rfl, p, _, _, 3, rfl, rfl, hp, rfl, ?_⟩
      change tSeq _ _ _ _ (upd H p (.lst [.ref l, .int (j : Int), .int c, .int ((sd * 31 + zs[j] + c + 1) % 2147483647), .int kk]))
      generalize (sd * 31 + zs[j] + c + 1) % 2147483647 = s3
      have k1 : Keep [p, l] H (upd H p (.lst [.ref l, .int (j : Int), .int c, .int s3, .int kk])) := Keep.upd (by simp) hp id _
      have hp1 : upd H p (.lst [.ref l, .int (j : Int), .int c, .int s3, .int kk]) p = some (.lst [.ref l, .int (j : Int), .int c, .int s3, .int kk]) := upd_same
      change tSeq _ _ _ _ (upd H p (.lst [.ref l, .int (j : Int), .int c, .int s3, .int kk]))
      generalize upd H p (.lst [.ref l, .int (j : Int), .int c, .int s3, .int kk]) = H1 at k1 hp1
      refine ⟨_, rfl, p, _, _, _, rfl, rfl, SqL.of hp1, atI_nat (j := 4) rfl, _, _, rfl, rfl, _, rfl, p, _, _, 4, rfl, rfl, hp1, rfl, ?_⟩
      have k2 : Keep [p, l] H1 (upd H1 p (.lst [.ref l, .int (j : Int), .int c, .int s3, .int (kk + 1)])) := Keep.upd (by simp) hp1 id _
      have hp2 : upd H1 p (.lst [.ref l, .int (j : Int), .int c, .int s3, .int (kk + 1)]) p = some (.lst [.ref l, .int (j : Int), .int c, .int s3, .int (kk + 1)]) := upd_same
      change C8.tCut _ _ _ _ (upd H1 p (.lst [.ref l, .int (j : Int), .int c, .int s3, .int (kk + 1)]))
      generalize upd H1 p (.lst [.ref l, .int (j : Int), .int c, .int s3, .int (kk + 1)]) = H2 at k2 hp2
      refine ⟨fun σ' H' => σ' = [some (.ref p), some (.int 6), none] ∧ Keep [p, l] H H' ∧ ∃ x0 x1 x4 c s, H' p = some (.lst [x0, x1, .int c, .int s, x4]), ?_, ?_⟩
      · refine ⟨_, rfl, p, _, _, _, rfl, rfl, SqL.of hp2, atI_nat (j := 4) rfl, _, _, rfl, rfl, (by show (0 : Int) < 3; decide), rfl, _, rfl, ?_⟩
        refine ite2 (fun _ => ?_) (fun _ => ?_)
        · refine ⟨_, rfl, p, _, _, _, rfl, rfl, SqL.of hp2, atI_nat (j := 1) rfl, _, _, rfl, rfl, _, rfl, p, _, _, 1, rfl, rfl, hp2, rfl, ?_⟩
          exact ⟨rfl, (k1.tr k2).tr (Keep.upd (by simp) hp2 id _), _, _, _, _, _, upd_same⟩
        · exact ⟨rfl, k1.tr k2, _, _, _, _, _, hp2⟩
      · rintro σ3 H3 ⟨rfl, k3, x0, x1, x4, c', s', hp3⟩
        exact ⟨_, rfl, _, rfl, p, _, _, _, _, _, rfl, hp3, fun H' n hn kp => k H' n hn (k3.tr (kp.mono (by simp +contextual)))⟩
    · -- found = pool[0][pool[1]] % many
      refine ⟨_, rfl, p, _, _, _, rfl, rfl, SqL.of hp, atI_nat (j := 0) rfl, _, rfl, p, _, _, _, rfl, rfl, SqL.of hp, atI_nat (j := 1) rfl, l, _, _, _, rfl, rfl, SqL.of hl, atI_nat (j := j) hcell, _, rfl, _, _, rfl, rfl, (by show (0 : Int) < 6; decide), ?_⟩
      refine ⟨_, rfl, p, _, _, _, rfl, rfl, SqL.of hp, atI_nat (j := 0) rfl, _, rfl, p, _, _, _, rfl, rfl, SqL.of hp, atI_nat (j := 1) rfl, l, _, _, _, rfl, rfl, SqL.of hl, atI_nat (j := j) hcell, _, rfl, _, _, rfl, rfl, (by show (0 : Int) < 6 ∧ (6 : Int) < 1073741824; decide), _, rfl, p, _, _, _, rfl, rfl, SqL.of hp, atI_nat (j := 0) rfl, _, rfl, p, _, _, _, rfl, rfl, SqL.of hp, atI_nat (j := 1) rfl, l, _, _, j, rfl, rfl, hl, (by
        unfold ixN
        rw [List.length_map, if_pos (by omega), if_pos (by omega)]
        simp), ?_⟩
      have k1 : Keep [p, l] H (upd H l (.lst ((zs.map V.int).set j (.int (zs[j] / 6))))) := Keep.upd (by simp) hl id _
      have hp1 : upd H l (.lst ((zs.map V.int).set j (.int (zs[j] / 6)))) p = some (.lst [.ref l, .int (j : Int), .int c, .int sd, .int kk]) := by rw [upd_ne npl]; exact hp
      have hl1 : upd H l (.lst ((zs.map V.int).set j (.int (zs[j] / 6)))) l = some (.lst ((zs.map V.int).set j (.int (zs[j] / 6)))) := upd_same
      change C8.tCut _ _ _ _ (upd H l (.lst ((zs.map V.int).set j (.int (zs[j] / 6)))))
      generalize upd H l (.lst ((zs.map V.int).set j (.int (zs[j] / 6)))) = H1 at k1 hp1 hl1
      have hcell1 : ((zs.map V.int).set j (.int (zs[j] / 6)))[j]? = some (.int (zs[j] / 6)) := List.getElem?_set_self (by rw [List.length_map]; exact hj)
      refine ⟨fun σ' H' => σ' = [some (.ref p), some (.int 6), some (.int (zs[j] % 6))] ∧ Keep [p, l] H H', ?_, ?_⟩
      · refine ⟨_, rfl, p, _, _, _, rfl, rfl, SqL.of hp1, atI_nat (j := 0) rfl, _, rfl, p, _, _, _, rfl, rfl, SqL.of hp1, atI_nat (j := 1) rfl, l, _, _, _, rfl, rfl, SqL.of hl1, atI_nat (j := j) hcell1, rfl, _, rfl, ?_⟩
        refine ite2 (fun _ => ?_) (fun _ => ?_)
        · refine ⟨_, rfl, p, _, _, _, rfl, rfl, SqL.of hp1, atI_nat (j := 1) rfl, _, _, rfl, rfl, _, rfl, p, _, _, 1, rfl, rfl, hp1, rfl, ?_⟩
          exact ⟨rfl, k1.tr (Keep.upd (by simp) hp1 id _)⟩
        · exact ⟨rfl, k1⟩
      · rintro σ2 H2 ⟨rfl, k2⟩
        have z1 : (0 : Int) ≤ zs[j] % 6 := Int.emod_nonneg _ (by decide)
        have z2 : zs[j] % 6 < 6 := Int.emod_lt_of_pos _ (by decide)
        obtain ⟨n, hn⟩ : ∃ n : Nat, zs[j] % 6 = (n : Int) := ⟨(zs[j] % 6).toNat, by omega⟩
        refine ⟨_, rfl, ?_⟩
        change Q (V.int (zs[j] % 6)) H2
        rw [hn]
        exact k H2 n (by omega) k2

/-! ### _law_due -/
def dQ (q : Gv × Lt) : PyData := .tuple [.str q.1.s, .str q.2.s]
theorem gv_ok (g : Gv) : PyData.strOk g.s = true := by cases g <;> decide +kernel
theorem lt_ok (l : Lt) : PyData.strOk l.s = true := by cases l <;> decide +kernel
theorem dQ_dp {K : PySem.W.Frag} {H : Hp} {t : Addr} {q : Gv × Lt} (h : SqT K H t (vQ q)) : Dp K H (.ref t) (dQ q) := .tup h (.cons (.str _) (.cons (.str _) .nil))
theorem dQ_sh (q : Gv × Lt) : SeqAt.shaped (dQ q) = true := by simp [dQ, SeqAt.shaped, PyData.canLay0, PyData.canLayAll0, PyData.depth, PyData.depthAll, gv_ok, lt_ok]
theorem dQ_eqv (q r : Gv × Lt) : PyData.eqv (dQ q) (dQ r) = decide (q = r) := by
  obtain ⟨a, b⟩ := q
  obtain ⟨c, d⟩ := r
  have e : PyData.eqv (dQ (a, b)) (dQ (c, d)) = ((a.s == c.s) && ((b.s == d.s) && true)) := by simp only [dQ, PyData.eqv, PyData.eqvAll]
  rw [e, Bool.eq_iff_iff]
  simp only [Bool.and_eq_true, beq_iff_eq, decide_eq_true_eq, Prod.mk.injEq, and_true]
  exact ⟨fun ⟨h1, h2⟩ => ⟨Gv.s_inj h1, Lt.s_inj h2⟩, fun ⟨h1, h2⟩ => ⟨by rw [h1], by rw [h2]⟩⟩
theorem gOne (g : Gv) : decide (V.str g.s = V.str ("one" : Str)) = decide (g = .one) := by cases g <;> decide +kernel
theorem and2 {c1 c2 : Bool} {M A B : Prop} (hm : (if c2 = true then A else B) → M) (h : if (c1 && c2) = true then A else B) : if c1 = true then M else (if false = true then A else B) := by
  cases c1
  · exact h
  · exact hm h
theorem ok_due {f : Addr} {fd : FuncData} (F : C8.Fun G.K "_law_due" "_law_due" sDue f fd) (T : Txt G.K mg G.c) : FnOk G.P G.w G.K mg base C8.CX0 1 f fd ["_law_one", "_law_other"] (spDue G) := by
  refine C8.fn0 F scDu (fun vs H Q E h => ?_) (fun cdv A outer s H vs Q E hr h => ?_)
  · obtain ⟨a, b, q, r, rfl, _⟩ := h
    rfl
  · obtain ⟨a, b, q, r, rfl, ha, hb, k⟩ := h
    have hu := hr.units
    refine ⟨_, pss_cons (ps_for PassesOwn.never rfl (pi_list (pe_lst (pa_cons (pe_tup (pa_cons (pv 0) (pa_cons (pv 1) pa_nil))) (pa_cons (pe_tup (pa_cons (pv 1) (pa_cons (pv 0) pa_nil))) pa_nil))))
        (pg_tup rfl (pgs_cons (pg_name (i := 2) scDu.nd rfl (.inl rfl)) (pgs_cons (pg_name (i := 3) scDu.nd rfl (.inl rfl)) pgs_nil)))
        (pss_cons (ps_if (pt_cmpR (op_eqD hu) (pv 2) (pe_tup (pa_cons pe_str (pa_cons pe_str pa_nil))) (nomark _)) (pss_one (ps_ret pe_bl)) pss_nil)
        (pss_cons (ps_if (PW.pt (pw_and (pt_cmpR op_eq (pe_ix ix_tup (pv 2) pe_int (fun _ _ => rfl)) pe_str (nomark _)) (pw_and1 (pt_cmpR op_eq (pe_ix ix_tup (pv 3) pe_int (fun _ _ => rfl)) pe_str (nomark _))))) (pss_one (ps_ret pe_bl)) pss_nil)
        (pss_cons (ps_if (PW.pt (pw_and (pt_cmpR (op_eqD hu) (pv 2) (pe_tup (pa_cons pe_str (pa_cons pe_str pa_nil))) (nomark _)) (pw_and1 (pt_cmpR op_eq (pe_ix ix_tup (pv 3) pe_int (fun _ _ => rfl)) pe_str (nomark _))))) (pss_one (ps_ret pe_bl)) pss_nil)
        (pss_one (ps_if (PW.pt (pw_and (pt_cmpR (op_eqD hu) (pv 2) (pe_tup (pa_cons pe_str (pa_cons pe_str pa_nil))) (nomark _)) (pw_and (pt_cmpR op_eq (pe_ix ix_tup (pv 3) pe_int (fun _ _ => rfl)) pe_str (nomark _)) (pw_and1 (pt_cmpR op_ne (pe_ix ix_tup (pv 3) pe_int (fun _ _ => rfl)) pe_str (nomark _)))))) (pss_one (ps_ret pe_bl)) pss_nil))))))
      (pss_one (ps_ret pe_bl)), ?_⟩
    refine ⟨_, rfl, _, rfl, (by show 2 ≤ sizeLine; decide), fun t1 h1 => ⟨_, rfl, _, rfl, (by show 2 ≤ sizeLine; decide), fun t2 h2 => ⟨(by show 2 ≤ sizeLine; decide), fun L hL => ⟨L, rfl, ⟨_, SqL.of upd_same⟩, for_list (K := G.K) (a := L) (xs := [V.ref t1, V.ref t2]) (fun i σ H' => ∃ v2 v3, σ = [some (.ref a), some (.ref b), v2, v3] ∧ Keep [] H H' ∧ H' L = some (.lst [V.ref t1, V.ref t2]) ∧ SqT G.K H' t1 [.ref a, .ref b] ∧ SqT G.K H' t2 [.ref b, .ref a] ∧ (0 < i → due1 q r = false) ∧ (1 < i → due1 r q = false)) ?_ ?_ ?_ ?_⟩⟩⟩⟩
    · have k1 : Keep [] H (upd H t1 (.tup [V.ref a, V.ref b])) := Keep.new h1 _
      have k2 : Keep [] (upd H t1 (.tup [V.ref a, V.ref b])) (upd (upd H t1 (.tup [V.ref a, V.ref b])) t2 (.tup [V.ref b, V.ref a])) := Keep.new h2 _
      have k3 : Keep [] (upd (upd H t1 (.tup [V.ref a, V.ref b])) t2 (.tup [V.ref b, V.ref a])) (upd (upd (upd H t1 (.tup [V.ref a, V.ref b])) t2 (.tup [V.ref b, V.ref a])) L (.lst [V.ref t1, V.ref t2])) := Keep.new hL _
      exact ⟨_, _, rfl, (k1.tr k2).tr k3, upd_same, (k2.tr k3).sqt (SqT.of upd_same), k3.sqt (SqT.of upd_same), fun z => absurd z (by omega), fun z => absurd z (by omega)⟩
    · rintro i σ H' _ ⟨v2, v3, rfl, _, hl, _⟩
      exact SqL.of hl
    · rintro i x σ H1 hx ⟨v2, v3, rfl, kp, hl, ht1, ht2, d1, d2⟩
      obtain ⟨tx, a', b', q', r', rfl, htx, ha', hb', e1, e2⟩ : ∃ (tx a' b' : Addr) (q' r' : Gv × Lt), x = .ref tx ∧ SqT G.K H1 tx [.ref a', .ref b'] ∧ SqT G.K H1 a' (vQ q') ∧ SqT G.K H1 b' (vQ r') ∧ (due1 q' r' = true → due q r = true) ∧ (due1 q' r' = false → (0 < i + 1 → due1 q r = false) ∧ (1 < i + 1 → due1 r q = false)) := by
        match i, hx, d1, d2 with
        | 0, hx, _, _ =>
          have hx : x = .ref t1 := (Option.some.inj hx).symm
          exact ⟨t1, a, b, q, r, hx, ht1, kp.sqt ha, kp.sqt hb, fun e => by unfold due; rw [e] <;> rfl, fun e => ⟨fun _ => e, fun z => absurd z (by omega)⟩⟩
        | 1, hx, d1, _ =>
          have hx : x = .ref t2 := (Option.some.inj hx).symm
          exact ⟨t2, b, a, r, q, hx, ht2, kp.sqt hb, kp.sqt ha, fun e => by unfold due; rw [e, Bool.or_true], fun e => ⟨fun _ => d1 (by omega), fun _ => e⟩⟩
        | i + 2, hx, _, _ => simp at hx
      have win : ∀ H2 : Hp, Keep [] H1 H2 → due1 q' r' = true → Q (.bl true) H2 := fun H2 kq e' => by
        have z := k H2 (kp.tr kq)
        rw [e1 e'] at z
        exact z
      refine ⟨tx, _, rfl, htx, rfl, _, _, rfl, _, _, rfl, rfl, ?_⟩
      refine ⟨_, rfl, (by show 2 ≤ sizeLine; decide), fun t2' h2' => ?_⟩
      have k2 : Keep [] H1 (upd H1 t2' (.tup (vQ (.one, .any)))) := Keep.new h2' _
      have s2 : SqT G.K (upd H1 t2' (.tup (vQ (.one, .any)))) t2' (vQ (.one, .any)) := SqT.of upd_same
      refine ⟨dQ q', dQ (.one, .any), dQ_dp (k2.sqt ha'), dQ_dp s2, dQ_sh _, dQ_sh _, _, rfl, ?_⟩
      rw [dQ_eqv]
      refine ite2 (fun c1 => win _ k2 (by simp only [due1, c1, Bool.true_or])) (fun c1 => ?_)
      have c1 := Bool.eq_false_iff.mpr c1
      -- both one
      refine ⟨_, rfl, a', _, _, _, rfl, rfl, k2.sqt ha', atI_nat (j := 0) rfl, rfl, _, rfl, ?_⟩
      rw [gOne]
      refine and2 (c2 := decide (r'.1 = .one)) (fun z => ⟨_, rfl, b', _, _, _, rfl, rfl, k2.sqt hb', atI_nat (j := 0) rfl, rfl, _, rfl, by rw [gOne]; exact z⟩) ?_
      refine ite2 (fun c2 => win _ k2 (by simp only [due1, c2, Bool.true_or, Bool.or_true])) (fun c2 => ?_)
      have c2 := Bool.eq_false_iff.mpr c2
      -- ("one", "house") and "each"
      refine ⟨_, rfl, (by show 2 ≤ sizeLine; decide), fun t3' h3' => ?_⟩
      have k3 := k2.tr (Keep.new (F := []) h3' (.tup (vQ (.one, .house))))
      refine ⟨dQ q', dQ (.one, .house), dQ_dp (k3.sqt ha'), dQ_dp (SqT.of upd_same), dQ_sh _, dQ_sh _, _, rfl, ?_⟩
      rw [dQ_eqv]
      refine and2 (c2 := decide (r'.1 = .each)) (fun z => ⟨_, rfl, b', _, _, _, rfl, rfl, k3.sqt hb', atI_nat (j := 0) rfl, rfl, _, rfl, by rw [gEach]; exact z⟩) ?_
      refine ite2 (fun c3 => win _ k3 (by simp only [due1, c3, Bool.true_or, Bool.or_true])) (fun c3 => ?_)
      have c3 := Bool.eq_false_iff.mpr c3
      -- ("each", "any"), "each", not "door"
      refine ⟨_, rfl, (by show 2 ≤ sizeLine; decide), fun t4' h4' => ?_⟩
      have k4 := k3.tr (Keep.new (F := []) h4' (.tup (vQ (.each, .any))))
      refine ⟨dQ q', dQ (.each, .any), dQ_dp (k4.sqt ha'), dQ_dp (SqT.of upd_same), dQ_sh _, dQ_sh _, _, rfl, ?_⟩
      rw [dQ_eqv]
      refine and2 (c2 := decide (r'.1 = .each) && !decide (r'.2 = .door)) (fun z => ⟨_, rfl, b', _, _, _, rfl, rfl, k4.sqt hb', atI_nat (j := 0) rfl, rfl, _, rfl, by rw [gEach]; exact and2 (c2 := !decide (r'.2 = .door)) (fun z => ⟨_, rfl, b', _, _, _, rfl, rfl, k4.sqt hb', atI_nat (j := 1) rfl, rfl, _, rfl, by rw [lDoor]; exact z⟩) z⟩) ?_
      refine ite2 (fun c4 => win _ k4 (by simp only [due1, ← Bool.and_assoc] at c4 ⊢; simp only [c4, Bool.true_or, Bool.or_true])) (fun c4 => ?_)
      have c4 := Bool.eq_false_iff.mpr c4
      have c4 : (decide (q' = (.each, .any)) && decide (r'.1 = .each) && !decide (r'.2 = .door)) = false := by rw [Bool.and_assoc]; exact c4
      have e : due1 q' r' = false := by simp only [due1, c1, c2, c3, c4, Bool.or_self]
      have k5 : Keep [] H _ := kp.tr k4
      exact ⟨_, _, rfl, k5, k4.old _ _ hl (.inl fun z => nomatch z), k4.sqt ht1, k4.sqt ht2, e2 e⟩
    · rintro σ H1 ⟨v2, v3, rfl, kp, hl, ht1, ht2, d1, d2⟩
      have z := k H1 kp
      have e : due q r = false := by unfold due; rw [d1 (by show 0 < 2; omega), d2 (by show 1 < 2; omega)] <;> rfl
      rw [e] at z
      exact z
end
end QD

set_option Elab.async false
set_option linter.all false
set_option maxRecDepth 100000
set_option maxHeartbeats 4000000
/-! The law's own def -/
namespace QD
open PySem PySem.Spec PyProof.Rows L2

theorem paired_at {α β : Type} {R : α → β → Prop} : ∀ {as : List α} {bs : List β} {i : Nat} {a : α}, Paired R as bs → as[i]? = some a → ∃ b, bs[i]? = some b ∧ R a b
  | _, _, _, _, .nil, h => by simp at h
  | _, _, 0, _, .cons (b := b) r _, h => ⟨b, rfl, by have e := Option.some.inj h; rw [← e]; exact r⟩
  | _, _, i + 1, a, .cons _ t, h => by
    obtain ⟨b, h1, h2⟩ := paired_at (i := i) t (by simpa using h)
    exact ⟨b, by simpa using h1, h2⟩
def spLaw (G : Gx) : Sp := fun vs H Q _ => ∃ (a : Addr) (ns : List Int), vs = [.ref a] ∧ SqL G.K H a (ns.map V.int) ∧ ns.length ≤ 63 ∧ ∀ H' : Hp, Q (.bl true) H'
theorem scLw : FnScope ["_law_script", "_law_pool", "_law_every", "_law_first", "_law_k", "_law_one", "_law_other", "_law_due_here"] ["_law_script"] (C8.fnScope sLaw) := C8.fnScope_by (by decide +kernel)
theorem end_made {G : Gx} {H : Hp} {d : Addr} {q : Gv × Lt} {Q : VK} {E : XK} (hd : DoorAt G H d q) (k : ∀ (e : Addr) (H' : Hp), Keep [] H H' → EndAt G H' e q → Q (.ref e) H') :
    ∀ x dx, H x = none → H dx = none → dx ≠ x → spEndI G [.ref x, .ref d] (upd (upd H dx (.own x)) x (.ins G.c.end_ dx [])) (fun v H2 => v = .non ∧ Q (.ref x) H2) E := by
  intro x dx nx nd ne
  have km : Keep [] H (upd (upd H dx (.own x)) x (.ins G.c.end_ dx [])) := Keep.made nx nd ne
  refine ⟨[.ref x], [.ref d], rfl, rfl, (by show 1 ≤ sizeLine; decide), fun p hp => ?_⟩
  have npx : x ≠ p := by
    rintro rfl
    rw [upd_same] at hp
    cases hp
  have kn : Keep [] (upd (upd H dx (.own x)) x (.ins G.c.end_ dx [])) (upd (upd (upd H dx (.own x)) x (.ins G.c.end_ dx [])) p (.tup [.ref d])) := Keep.new hp _
  refine ⟨x, dx, p, d, q, rfl, by rw [upd_ne npx]; exact upd_same, SqT.of upd_same, kn.door (km.door hd), fun H' k' he => ⟨rfl, k x H' ((km.tr kn).trans k' fun b hb => ?_) he⟩⟩
  simp only [List.mem_singleton] at hb
  subst hb
  exact .inr nx
theorem rd_end {G : Gx} {i : Nat} {d : Addr} {q : Gv × Lt} {σ : L2.St} {H : Hp} {Q : VK} (hv : σ[i]? = some (some (.ref d))) (hd : DoorAt G H d q) (k : ∀ (e : Addr) (H' : Hp), Keep [] H H' → EndAt G H' e q → Q (.ref e) H') :
    StX.tMakeR G.c.end_ (spEndI G) C8.E0 (tCons (tVar i) tNil) σ H Q := ⟨_, hv, end_made hd k⟩
section
variable {G : Gx} {mg : Str → Option Value} {base : Heap}
theorem ok_law {f fs fe : Addr} {fd fds : FuncData} {mc : Value} {sm : Addr} (F : C8.Fun G.K "law" "law" sLaw f fd) (T : Txt G.K mg G.c)
    (CB : C8.Cal G.P G.w G.K mg base 1 "_law_begin" (spBegin G) []) (CD : C8.Cal G.P G.w G.K mg base 2 "_law_draw" (spDraw G) []) (CU : C8.Cal G.P G.w G.K mg base 1 "_law_due" (spDue G) [])
    (CM : C8.Cal G.P G.w G.K mg base 8 "meets" (spMeets G) []) (CR : C8.Cal G.P G.w G.K mg base 8 "rounds" (spRounds G) [])
    (PG : Prp G.P G.w G.K mg base 1 G.c.door "gives" "kept_gives") (PL : Prp G.P G.w G.K mg base 1 G.c.door "lets" "kept_lets")
    (ST : StM G.K G.c.door mc "six" sm fs) (FS : FnOk G.P G.w G.K mg base C8.CX0 4 fs fds [] (spSix G)) (BS : Binds G.K fds [] [])
    (ME : Mk G.K G.c.end_ fe) (FE : FnR G.P G.w G.K mg base C8.CX0 2 fe (spEndI G)) :
    FnOk G.P G.w G.K mg base C8.CX0 9 f fd ["_law_script"] (spLaw G) := by
  refine C8.fn0 F scLw (fun vs H Q E h => ?_) (fun cdv A outer s H vs Q E hr h => ?_)
  · obtain ⟨a, ns, rfl, _⟩ := h
    rfl
  · obtain ⟨a, ns, rfl, hS, hlen, k⟩ := h
    have hu := hr.units
    refine ⟨_, pss_cons (ps_set (i := 1) scLw.nd rfl (.inl rfl) (C8.pe_c CB hr (by decide) (by rfl) (pa_cons (pv 0) pa_nil)))
      (pss_cons (ps_set (i := 2) scLw.nd rfl (.inl rfl) (pe_smeth0 (E := C8.E0) (C8.pe_gc (v := .ref G.c.door) rfl ⟨_, T.mgD, rfl⟩) ST FS (hr.mono (by decide)) BS C8.pass0))
      (pss_cons (ps_set (i := 3) scLw.nd rfl (.inl rfl) (C8.pe_c CD hr (by decide) (by rfl) (pa_cons (pv 1) (pa_cons pe_int pa_nil))))
      (C8.pss_cut (ps_for PassesOwn.never rfl (pi_range1 (by rfl) T.range (pa_cons pe_int pa_nil)) (pg_name (i := 4) scLw.nd rfl (.inl rfl))
        (pss_one (ps_for PassesOwn.never rfl (pi_list (pe_lst (pa_cons (pe_ix ix_tup (pv 2) (pe_op op_mod (pe_op op_add (pv 3) (pv 4)) pe_int) (fun _ _ => rfl)) pa_nil))) (pg_name (i := 5) scLw.nd rfl (.inl rfl))
          (pss_one (ps_for PassesOwn.never rfl (pi_tup (pv 2)) (pg_name (i := 6) scLw.nd rfl (.inl rfl))
            (pss_cons (ps_set (i := 7) scLw.nd rfl (.inl rfl) (C8.pe_c CU hr (by decide) (by rfl) (pa_cons (pe_tup (pa_cons (pe_pr PG hr (by decide) (pv 5) rfl) (pa_cons (pe_pr PL hr (by decide) (pv 5) rfl) pa_nil))) (pa_cons (pe_tup (pa_cons (pe_pr PG hr (by decide) (pv 6) rfl) (pa_cons (pe_pr PL hr (by decide) (pv 6) rfl) pa_nil))) pa_nil))))
            (pss_cons (ps_if (pt_cmpR op_ne (C8.pe_c CM hr (by decide) (by rfl) (pa_cons (StX.pe_makeR (E := C8.E0) ME FE (hr.mono (by decide)) (by rfl) T.mgE C8.pass0 (pa_cons (pv 5) pa_nil)) (pa_cons (StX.pe_makeR (E := C8.E0) ME FE (hr.mono (by decide)) (by rfl) T.mgE C8.pass0 (pa_cons (pv 6) pa_nil)) pa_nil))) (pv 7) (nomark _)) (pss_one (ps_ret pe_bl)) pss_nil)
            (pss_one (ps_if (pt_cmpR op_ne (pv 7) (pe_cmp (pc_notN (C8.pe_c CR hr (by decide) (by rfl) (pa_cons (StX.pe_makeR (E := C8.E0) ME FE (hr.mono (by decide)) (by rfl) T.mgE C8.pass0 (pa_cons (pv 5) pa_nil)) (pa_cons (StX.pe_makeR (E := C8.E0) ME FE (hr.mono (by decide)) (by rfl) T.mgE C8.pass0 (pa_cons (pv 6) pa_nil)) pa_nil))))) (nomark _)) (pss_one (ps_ret pe_bl)) pss_nil)))))))))
      (pss_one (ps_ret (pe_cmpR op_eq (pe_callB call_len_seq (by rfl) T.len PySem.boot_len (pa_cons
        (pe_lc (own := [("_law_one", 5)]) (g := gName 5) (tt := tB (tCall (spMeets G) [] C8.E0 (tCons (StX.tMakeR G.c.end_ (spEndI G) C8.E0 (tCons (tVar 5) tNil)) (tCons (StX.tMakeR G.c.end_ (spEndI G) C8.E0 (tCons (tVar 5) tNil)) tNil)))) rfl scLw.nd (pi_tup (pv 2)) (blkOk_by (own := [("_law_one", 5)]) (N := ["_law_script", "_law_pool", "_law_every", "_law_first", "_law_k", "_law_one", "_law_other", "_law_due_here"]) (sc := C8.fnScope sLaw) (by decide +kernel))
          (fun _ _ _ _ _ => pg_name (i := 5) scLw.nd rfl (.inl rfl))
          (fun _ _ _ _ _ => pts_one (pt_val (C8.pe_c CM hr (by decide) (by rfl) (pa_cons (StX.pe_makeR (E := C8.E0) ME FE (hr.mono (by decide)) (by rfl) T.mgE C8.pass0 (pa_cons (pv 5) pa_nil)) (pa_cons (StX.pe_makeR (E := C8.E0) ME FE (hr.mono (by decide)) (by rfl) T.mgE C8.pass0 (pa_cons (pv 5) pa_nil)) pa_nil)))))
          (fun _ _ _ _ _ => pv 5)) pa_nil)) pe_int (nomark _))))))), ?_⟩
    -- the pool, the six, the first
    refine ⟨_, rfl, a, ns, rfl, hS, hlen, fun H1 p l zs k1 hpl _ _ => ?_⟩
    refine ⟨rfl, rfl, fun H2 t ds k2 ht hds => ?_⟩
    have hpl2 : PoolAt H2 p l zs 0 := by
      obtain ⟨c, sd, kk, h1, h2⟩ := hpl
      exact ⟨c, sd, kk, k2.old _ _ h1 (.inl fun z => nomatch z), k2.old _ _ h2 (.inl fun z => nomatch z)⟩
    refine ⟨_, rfl, p, l, zs, 0, rfl, hpl2, fun H3 n hn k3 => ?_⟩
    have st : ∀ H' : Hp, Keep [] H3 H' → SqT G.K H' t (ds.map V.ref) ∧ Paired (DoorAt G H') ds six := fun H' kq => ⟨(k3.tr kq.of0).sqt (SqT.of ht), (k3.tr kq.of0).doors hds⟩
    have l6 : ds.length = 6 := hds.length
    refine ⟨fun σ' H' => ∃ v4 v5 v6 v7, σ' = [some (.ref a), some (.ref p), some (.ref t), some (.int (n : Int)), v4, v5, v6, v7] ∧ Keep [] H3 H', ?_, ?_⟩
    · refine ⟨6, rfl, (by decide), (by decide), for_range (lo := 0) (n := 6) (fun i σ H' => ∃ v4 v5 v6 v7, σ = [some (.ref a), some (.ref p), some (.ref t), some (.int (n : Int)), v4, v5, v6, v7] ∧ Keep [] H3 H') ?_ ?_ ?_⟩
      · exact ⟨_, _, _, _, rfl, Keep.refl _ _⟩
      · rintro i σ H4 hi ⟨v4, v5, v6, v7, rfl, k4⟩
        obtain ⟨t4, d4⟩ := st _ k4
        obtain ⟨d, hd⟩ : ∃ d, (ds.map V.ref)[(n + i) % 6]? = some (V.ref d) := by
          have z : (n + i) % 6 < ds.length := by omega
          exact ⟨ds[(n + i) % 6], by rw [List.getElem?_map, List.getElem?_eq_getElem z] <;> rfl⟩
        have hix : ((n : Int) + (0 + (i : Nat))) % 6 = (((n + i) % 6 : Nat) : Int) := by omega
        have hds4 := d4
        obtain ⟨d', hd', rfl⟩ : ∃ d', ds[(n + i) % 6]? = some d' ∧ d' = d := by
          rw [List.getElem?_map] at hd
          obtain ⟨d', h1, h2⟩ := Option.map_eq_some_iff.mp hd
          exact ⟨d', h1, by cases h2; rfl⟩
        obtain ⟨q, _, hq⟩ := paired_at d4 hd'
        refine ⟨_, rfl, _, rfl, _, rfl, _, _, rfl, rfl, _, _, rfl, rfl, (by show (0 : Int) < 6; decide), t, _, _, V.ref d', rfl, rfl, t4, (by
          rw [hix]
          exact atI_nat hd), (by show 1 ≤ sizeLine; decide), fun L hL => ⟨L, rfl, ⟨_, SqL.of upd_same⟩, for_list (K := G.K) (a := L) (xs := [V.ref d']) (fun j σ H' => ∃ v5 v6 v7, σ = [some (.ref a), some (.ref p), some (.ref t), some (.int (n : Int)), some (.int (0 + (i : Nat))), v5, v6, v7] ∧ Keep [] H3 H' ∧ Keep [] H4 H' ∧ H' L = some (.lst [V.ref d'])) ?_ ?_ ?_ ?_⟩⟩
        · exact ⟨_, _, _, rfl, k4.tr (Keep.new hL _), Keep.new hL _, upd_same⟩
        · rintro j σ H' _ ⟨_, _, _, _, _, _, e⟩
          exact SqL.of e
        · rintro j x σ H5 hx ⟨v5, v6, v7, rfl, k5, k45, eL⟩
          obtain ⟨rfl, rfl⟩ : j = 0 ∧ x = .ref d' := by
            match j, hx with
            | 0, hx => exact ⟨rfl, (Option.some.inj hx).symm⟩
            | j + 1, hx => simp at hx
          refine ⟨_, rfl, t, rfl, ⟨_, (st _ k5).1⟩, for_tup (K := G.K) (a := t) (xs := ds.map V.ref) (fun m σ H' => ∃ v6 v7, σ = [some (.ref a), some (.ref p), some (.ref t), some (.int (n : Int)), some (.int (0 + (i : Nat))), some (.ref d'), v6, v7] ∧ Keep [] H5 H') ?_ ?_ ?_ ?_⟩
          · exact ⟨_, _, rfl, Keep.refl _ _⟩
          · rintro m σ H' _ ⟨_, _, _, kq⟩
            exact (st _ (k5.tr kq)).1
          · rintro m x σ H6 hx ⟨v6, v7, rfl, k6⟩
            obtain ⟨e, he, rfl⟩ : ∃ e, ds[m]? = some e ∧ x = V.ref e := by
              rw [List.getElem?_map] at hx
              obtain ⟨e, h1, h2⟩ := Option.map_eq_some_iff.mp hx
              exact ⟨e, h1, h2.symm⟩
            obtain ⟨r, _, hr6⟩ := paired_at (st _ (k5.tr k6)).2 he
            have hq6 := (k45.tr k6).door hq
            obtain ⟨dd, gd⟩ := id hq6
            obtain ⟨de, ge⟩ := id hr6
            refine ⟨_, rfl, d', dd, _, rfl, gd, d', dd, _, _, rfl, gd, lD1, _, rfl, d', dd, _, rfl, gd, d', dd, _, _, rfl, gd, lD2, (by show 2 ≤ sizeLine; decide), fun ta hta => ?_⟩
            have kta : Keep [] H6 (upd H6 ta (.tup (vQ q))) := Keep.new hta _
            have ge' := kta.old _ _ ge (.inr pur_D)
            refine ⟨_, rfl, e, de, _, rfl, ge', e, de, _, _, rfl, ge', lD1, _, rfl, e, de, _, rfl, ge', e, de, _, _, rfl, ge', lD2, (by show 2 ≤ sizeLine; decide), fun tb htb => ?_⟩
            have ktb : Keep [] (upd H6 ta (.tup (vQ q))) (upd (upd H6 ta (.tup (vQ q))) tb (.tup (vQ r))) := Keep.new htb _
            refine ⟨ta, tb, q, r, rfl, ktb.sqt (SqT.of upd_same), SqT.of upd_same, fun H7 k7 => ?_⟩
            have k67 := (kta.tr ktb).tr k7
            -- meets
            try dsimp only [gName, tSeq, tIfS, tTest, tOp, tCall, tCons, tNotN]
            refine rd_end (G := G) (by rfl) (k67.door hq6) fun e1 H8 k8 he1 => ?_
            try dsimp only [gName, tSeq, tIfS, tTest, tOp, tCall, tCons, tNotN]
            refine rd_end (G := G) (by rfl) ((k67.tr k8).door hr6) fun e2 H9 k9 he2 => ?_
            refine ⟨e1, e2, q, r, rfl, k9.endAt he1, he2, fun H10 k10 => ⟨_, rfl, rfl, _, rfl, ?_⟩⟩
            rw [show decide (V.bl (due q r) = V.bl (due q r)) = true from by simp]
            refine iteF ?_
            have k610 := ((k67.tr k8).tr k9).tr k10
            -- rounds
            refine ⟨_, rfl, ?_⟩
            try dsimp only [gName, tSeq, tIfS, tTest, tOp, tCall, tCons, tNotN]
            refine rd_end (G := G) (by rfl) (k610.door hq6) fun e3 H11 k11 he3 => ?_
            try dsimp only [gName, tSeq, tIfS, tTest, tOp, tCall, tCons, tNotN]
            refine rd_end (G := G) (by rfl) ((k610.tr k11).door hr6) fun e4 H12 k12 he4 => ?_
            refine ⟨e3, e4, q, r, rfl, k12.endAt he3, he4, fun H13 w k13 => ?_⟩
            refine ⟨rfl, _, rfl, ?_⟩
            have ez : decide (V.bl (due q r) = V.bl (!decide ((if due q r = true then V.int w else V.non) = V.non))) = true := by
              cases due q r <;> simp
            rw [ez]
            refine iteF ⟨_, _, rfl, (((k6.tr k610).tr k11).tr k12).tr k13⟩
          · rintro σ H' ⟨_, _, rfl, kq⟩
            exact ⟨_, _, _, rfl, k5.tr kq, k45.tr kq, kq.old _ _ eL (.inl fun z => nomatch z)⟩
        · rintro σ H' ⟨_, _, _, rfl, kq, _⟩
          exact ⟨_, _, _, _, rfl, kq⟩
      · rintro σ H4 h4
        exact h4
    · rintro σ1 H4 ⟨v4, v5, v6, v7, rfl, k4⟩
      obtain ⟨t4, d4⟩ := st _ k4
      refine ⟨_, rfl, t, rfl, ⟨_, t4⟩, fun D hD => ?_⟩
      refine lc_tup (K := G.K) (a := t) (xs := ds.map V.ref) (fun i H' => Keep [] H4 H' ∧ ∃ acc : List V, H' D = some (.lst acc) ∧ acc.length ≤ i ∧ acc.length = ((six.take i).filter fun q => due q q).length) ⟨Keep.new hD _, [], upd_same, Nat.le_refl _, rfl⟩ (fun i H' _ ⟨kq, _⟩ => kq.sqt t4) ?_ ?_
      · rintro i x H' hx ⟨kq, acc, hacc, l1, l2⟩
        obtain ⟨e, he, rfl⟩ : ∃ e, ds[i]? = some e ∧ x = V.ref e := by
          rw [List.getElem?_map] at hx
          obtain ⟨e, h1, h2⟩ := Option.map_eq_some_iff.mp hx
          exact ⟨e, h1, h2.symm⟩
        have hi : i < 6 := by
          have z := (List.getElem?_eq_some_iff.mp he).1
          omega
        obtain ⟨q, hq6, hq⟩ := paired_at d4 he
        have hq := kq.door hq
        have et : six.take (i + 1) = six.take i ++ [q] := by rw [List.take_add_one, hq6] <;> rfl
        refine ⟨rfl, ?_⟩
        try dsimp only [gName, tSeq, tIfS, tTest, tOp, tCall, tCons, tNotN, tB]
        refine rd_end (G := G) (by rfl) hq fun e1 H8 k8 he1 => ?_
        try dsimp only [gName, tSeq, tIfS, tTest, tOp, tCall, tCons, tNotN, tB]
        refine rd_end (G := G) (by rfl) (k8.door hq) fun e2 H9 k9 he2 => ?_
        refine ⟨e1, e2, q, q, rfl, k9.endAt he1, he2, fun H10 k10 => ⟨_, rfl, ?_⟩⟩
        have k710 := (k8.tr k9).tr k10
        have hacc' := k710.old _ _ hacc (.inl fun z => nomatch z)
        refine ite2 (fun hd => ?_) (fun hd => ?_)
        · refine ⟨_, rfl, acc, hacc', small1000 (by omega), (kq.tr k710).updNew hD _, _, upd_same, by rw [List.length_append] <;> exact Nat.add_le_add_right l1 1, ?_⟩
          rw [et, List.filter_append, List.length_append, List.length_append, l2, List.filter_cons_of_pos (p := fun q => due q q) hd] <;> rfl
        · refine ⟨kq.tr k710, acc, hacc', Nat.le_succ_of_le l1, ?_⟩
          rw [et, List.filter_append, List.length_append, l2, List.filter_cons_of_neg (p := fun q => due q q) hd] <;> rfl
      · rintro H5 ⟨kq, acc, hacc, l1, l2⟩
        have e4 : acc.length = 4 := by
          rw [l2, List.length_map, l6, List.take_of_length_le (by decide)]
          exact four
        refine ⟨D, acc, rfl, .inl (SqL.of hacc), rfl, ?_⟩
        rw [e4]
        exact k H5
end
end QD

set_option Elab.async false
set_option linter.all false
set_option maxRecDepth 100000
set_option maxHeartbeats 4000000
/-! What the top has left, each a fact that the head's K answers; the law's def by all promises -/
namespace QD
open PySem PySem.Spec PyProof.Rows L2

theorem all_mk {l : PySem.W.OpenLaw} {w : World} {K : PySem.W.Frag} {h : Heap} {mg : Str → Option Value} {fa : Addr} (X : K.In h) (N : h.Ns mainGlobals mg) (hfa : mg "law" = some (.ref fa))
    {cD cE cP cS cM f_isfil f_doorI f_gives f_letsg f_six f_endI f_doors f_pasI f_psent f_pcame f_sideI f_ssent f_letsin f_learns f_meetI f_mside f_known f_heard f_over f_mlen f_round f_played f_meets f_rounds f_begin f_mixed f_draw f_due f_law p_gives p_letsg p_doors p_six t_maps t_filters t_places t_house T0 : Addr}
    {oc_isfil kV_isfil dc_isfil pm_isfil cd_isfil ct_isfil oc_doorI kV_doorI dc_doorI pm_doorI cd_doorI ct_doorI oc_gives kV_gives dc_gives pm_gives cd_gives ct_gives oc_letsg kV_letsg dc_letsg pm_letsg cd_letsg ct_letsg oc_six kV_six dc_six pm_six cd_six ct_six oc_endI kV_endI dc_endI pm_endI cd_endI ct_endI oc_doors kV_doors dc_doors pm_doors cd_doors ct_doors oc_pasI kV_pasI dc_pasI pm_pasI cd_pasI ct_pasI oc_psent kV_psent dc_psent pm_psent cd_psent ct_psent oc_pcame kV_pcame dc_pcame pm_pcame cd_pcame ct_pcame oc_sideI kV_sideI dc_sideI pm_sideI cd_sideI ct_sideI oc_ssent kV_ssent dc_ssent pm_ssent cd_ssent ct_ssent oc_letsin kV_letsin dc_letsin pm_letsin cd_letsin ct_letsin oc_learns kV_learns dc_learns pm_learns cd_learns ct_learns oc_meetI kV_meetI dc_meetI pm_meetI cd_meetI ct_meetI oc_mside kV_mside dc_mside pm_mside cd_mside ct_mside oc_known kV_known dc_known pm_known cd_known ct_known oc_heard kV_heard dc_heard pm_heard cd_heard ct_heard oc_over kV_over dc_over pm_over cd_over ct_over oc_mlen kV_mlen dc_mlen pm_mlen cd_mlen ct_mlen oc_round kV_round dc_round pm_round cd_round ct_round oc_played kV_played dc_played pm_played cd_played ct_played oc_meets kV_meets dc_meets pm_meets cd_meets ct_meets oc_rounds kV_rounds dc_rounds pm_rounds cd_rounds ct_rounds oc_begin kV_begin dc_begin pm_begin cd_begin ct_begin oc_mixed kV_mixed dc_mixed pm_mixed cd_mixed ct_mixed oc_draw kV_draw dc_draw pm_draw cd_draw ct_draw oc_due kV_due dc_due pm_due cd_due ct_due oc_law kV_law dc_law pm_law cd_law ct_law : Value}
    {od_isfil an_isfil od_doorI an_doorI od_gives an_gives od_letsg an_letsg od_six an_six od_endI an_endI od_doors an_doors od_pasI an_pasI od_psent an_psent od_pcame an_pcame od_sideI an_sideI od_ssent an_ssent od_letsin an_letsin od_learns an_learns od_meetI an_meetI od_mside an_mside od_known an_known od_heard an_heard od_over an_over od_mlen an_mlen od_round an_round od_played an_played od_meets an_meets od_rounds an_rounds od_begin an_begin od_mixed an_mixed od_draw an_draw od_due an_due od_law an_law : Option Addr}
    {sl_isfil sl_doorI sl_gives sl_letsg sl_six sl_endI sl_doors sl_pasI sl_psent sl_pcame sl_sideI sl_ssent sl_letsin sl_learns sl_meetI sl_mside sl_known sl_heard sl_over sl_mlen sl_round sl_played sl_meets sl_rounds sl_begin sl_mixed sl_draw sl_due sl_law : Array (Option Value)}
    {rest_gives rest_letsg rest_doors rest_six : List Value} {o_T0 o_maps o_filters o_places o_house : Obj} {m_T0 m_maps m_filters m_places m_house : Nat} {its_T0 its_maps its_filters its_places its_house : Array Value} {t_most : _}
    (aD : PySem.W.nsIn K mainGlobals "Door" = some (some (.ref cD)))
    (aE : PySem.W.nsIn K mainGlobals "End" = some (some (.ref cE)))
    (aP : PySem.W.nsIn K mainGlobals "Passage" = some (some (.ref cP)))
    (aS : PySem.W.nsIn K mainGlobals "Side" = some (some (.ref cS)))
    (aM : PySem.W.nsIn K mainGlobals "Meeting" = some (some (.ref cM)))
    (pgD : PySem.W.plainGet K cD Str.empty = true)
    (hdD : PySem.W.hasDictIn K cD = true)
    (poD : PySem.W.plainOver K cD = true)
    (saD : PySem.W.findIn K (.ref cD) "__setattr__" = some (some (.builtin "object.__setattr__")))
    (mkD : PySem.W.makesIn K cD = true)
    (kcD : PySem.W.keepIn K (.ref cD) = true)
    (pgE : PySem.W.plainGet K cE Str.empty = true)
    (hdE : PySem.W.hasDictIn K cE = true)
    (poE : PySem.W.plainOver K cE = true)
    (saE : PySem.W.findIn K (.ref cE) "__setattr__" = some (some (.builtin "object.__setattr__")))
    (mkE : PySem.W.makesIn K cE = true)
    (kcE : PySem.W.keepIn K (.ref cE) = true)
    (pgP : PySem.W.plainGet K cP Str.empty = true)
    (hdP : PySem.W.hasDictIn K cP = true)
    (poP : PySem.W.plainOver K cP = true)
    (saP : PySem.W.findIn K (.ref cP) "__setattr__" = some (some (.builtin "object.__setattr__")))
    (mkP : PySem.W.makesIn K cP = true)
    (kcP : PySem.W.keepIn K (.ref cP) = true)
    (pgS : PySem.W.plainGet K cS Str.empty = true)
    (hdS : PySem.W.hasDictIn K cS = true)
    (poS : PySem.W.plainOver K cS = true)
    (saS : PySem.W.findIn K (.ref cS) "__setattr__" = some (some (.builtin "object.__setattr__")))
    (mkS : PySem.W.makesIn K cS = true)
    (kcS : PySem.W.keepIn K (.ref cS) = true)
    (pgM : PySem.W.plainGet K cM Str.empty = true)
    (hdM : PySem.W.hasDictIn K cM = true)
    (poM : PySem.W.plainOver K cM = true)
    (saM : PySem.W.findIn K (.ref cM) "__setattr__" = some (some (.builtin "object.__setattr__")))
    (mkM : PySem.W.makesIn K cM = true)
    (kcM : PySem.W.keepIn K (.ref cM) = true)
    (nD_kept_gives : PySem.W.findIn K (.ref cD) "kept_gives" = some none)
    (nD_kept_lets : PySem.W.findIn K (.ref cD) "kept_lets" = some none)
    (nE_kept_doors : PySem.W.findIn K (.ref cE) "kept_doors" = some none)
    (nP_door : PySem.W.findIn K (.ref cP) "door" = some none)
    (nP_inner_of : PySem.W.findIn K (.ref cP) "inner_of" = some none)
    (nP_by_key : PySem.W.findIn K (.ref cP) "by_key" = some none)
    (nP_sent_to : PySem.W.findIn K (.ref cP) "sent_to" = some none)
    (nS_place : PySem.W.findIn K (.ref cS) "place" = some none)
    (nS_passages : PySem.W.findIn K (.ref cS) "passages" = some none)
    (nS_addresses : PySem.W.findIn K (.ref cS) "addresses" = some none)
    (nS_has_heard : PySem.W.findIn K (.ref cS) "has_heard" = some none)
    (nM_sides : PySem.W.findIn K (.ref cM) "sides" = some none)
    (nM_own_rounds : PySem.W.findIn K (.ref cM) "own_rounds" = some none)
    (nM_is_stuck : PySem.W.findIn K (.ref cM) "is_stuck" = some none)
    (a_isfil : PySem.W.nsIn K mainGlobals "is_filter" = some (some (.ref f_isfil)))
    (l_isfil : K.lookup f_isfil = some ⟨oc_isfil, od_isfil, .func (PySem.W.fnOf "is_filter" "is_filter" (C8.fnArgs sIsFil) (C8.fnBody sIsFil) (C8.fnScope sIsFil) .none kV_isfil dc_isfil pm_isfil an_isfil cd_isfil ct_isfil), sl_isfil⟩)
    (c_isfil : PySem.W.codeIn K cd_isfil "is_filter" = true)
    (k_isfil : PySem.W.keepIn K (.ref f_isfil) = true)
    (a_doorI : PySem.W.findIn K (.ref cD) "__init__" = some (some (.ref f_doorI)))
    (i_doorI : PySem.W.isFn K (.ref f_doorI) = true)
    (l_doorI : K.lookup f_doorI = some ⟨oc_doorI, od_doorI, .func (PySem.W.fnOf "__init__" "Door.__init__" (C8.fnArgs sDoorI) (C8.fnBody sDoorI) (C8.fnScope sDoorI) (.ref T0) kV_doorI dc_doorI pm_doorI an_doorI cd_doorI ct_doorI), sl_doorI⟩)
    (c_doorI : PySem.W.codeIn K cd_doorI "Door.__init__" = true)
    (k_doorI : PySem.W.keepIn K (.ref f_doorI) = true)
    (a_gives : PySem.W.findIn K (.ref cD) "gives" = some (some (.ref p_gives)))
    (g_gives : PySem.W.specialIn K (.ref p_gives) "__get__" = some (some (.builtin "property.__get__")))
    (t_gives : PySem.W.takesIn K (.ref p_gives) = some true)
    (r_gives : PySem.W.recIn K p_gives "property" = some (.ref f_gives :: rest_gives))
    (l_gives : K.lookup f_gives = some ⟨oc_gives, od_gives, .func (PySem.W.fnOf "gives" "Door.gives" (C8.fnArgs sGives) (C8.fnBody sGives) (C8.fnScope sGives) .none kV_gives dc_gives pm_gives an_gives cd_gives ct_gives), sl_gives⟩)
    (c_gives : PySem.W.codeIn K cd_gives "Door.gives" = true)
    (k_gives : PySem.W.keepIn K (.ref f_gives) = true)
    (a_letsg : PySem.W.findIn K (.ref cD) "lets" = some (some (.ref p_letsg)))
    (g_letsg : PySem.W.specialIn K (.ref p_letsg) "__get__" = some (some (.builtin "property.__get__")))
    (t_letsg : PySem.W.takesIn K (.ref p_letsg) = some true)
    (r_letsg : PySem.W.recIn K p_letsg "property" = some (.ref f_letsg :: rest_letsg))
    (l_letsg : K.lookup f_letsg = some ⟨oc_letsg, od_letsg, .func (PySem.W.fnOf "lets" "Door.lets" (C8.fnArgs sLets) (C8.fnBody sLets) (C8.fnScope sLets) .none kV_letsg dc_letsg pm_letsg an_letsg cd_letsg ct_letsg), sl_letsg⟩)
    (c_letsg : PySem.W.codeIn K cd_letsg "Door.lets" = true)
    (k_letsg : PySem.W.keepIn K (.ref f_letsg) = true)
    (rd_six : PySem.W.readsIn K cD (.type "type") = true)
    (ga_six : PySem.W.specialIn K (.ref cD) "__getattribute__" = some (some (.builtin "type.__getattribute__")))
    (a_six : PySem.W.findCls K (.ref cD) (.type "type") "six" = some (.get (.builtin "staticmethod.__get__") (.ref p_six) .none (.ref cD)))
    (r_six : PySem.W.recIn K p_six "staticmethod" = some (.ref f_six :: rest_six))
    (l_six : K.lookup f_six = some ⟨oc_six, od_six, .func (PySem.W.fnOf "six" "Door.six" (C8.fnArgs sSix) (C8.fnBody sSix) (C8.fnScope sSix) .none kV_six dc_six pm_six an_six cd_six ct_six), sl_six⟩)
    (c_six : PySem.W.codeIn K cd_six "Door.six" = true)
    (k_six : PySem.W.keepIn K (.ref f_six) = true)
    (a_endI : PySem.W.findIn K (.ref cE) "__init__" = some (some (.ref f_endI)))
    (i_endI : PySem.W.isFn K (.ref f_endI) = true)
    (l_endI : K.lookup f_endI = some ⟨oc_endI, od_endI, .func (PySem.W.fnOf "__init__" "End.__init__" (C8.fnArgs sEndI) (C8.fnBody sEndI) (C8.fnScope sEndI) .none kV_endI dc_endI pm_endI an_endI cd_endI ct_endI), sl_endI⟩)
    (c_endI : PySem.W.codeIn K cd_endI "End.__init__" = true)
    (k_endI : PySem.W.keepIn K (.ref f_endI) = true)
    (a_doors : PySem.W.findIn K (.ref cE) "doors" = some (some (.ref p_doors)))
    (g_doors : PySem.W.specialIn K (.ref p_doors) "__get__" = some (some (.builtin "property.__get__")))
    (t_doors : PySem.W.takesIn K (.ref p_doors) = some true)
    (r_doors : PySem.W.recIn K p_doors "property" = some (.ref f_doors :: rest_doors))
    (l_doors : K.lookup f_doors = some ⟨oc_doors, od_doors, .func (PySem.W.fnOf "doors" "End.doors" (C8.fnArgs sDoors) (C8.fnBody sDoors) (C8.fnScope sDoors) .none kV_doors dc_doors pm_doors an_doors cd_doors ct_doors), sl_doors⟩)
    (c_doors : PySem.W.codeIn K cd_doors "End.doors" = true)
    (k_doors : PySem.W.keepIn K (.ref f_doors) = true)
    (a_pasI : PySem.W.findIn K (.ref cP) "__init__" = some (some (.ref f_pasI)))
    (i_pasI : PySem.W.isFn K (.ref f_pasI) = true)
    (l_pasI : K.lookup f_pasI = some ⟨oc_pasI, od_pasI, .func (PySem.W.fnOf "__init__" "Passage.__init__" (C8.fnArgs sPasI) (C8.fnBody sPasI) (C8.fnScope sPasI) .none kV_pasI dc_pasI pm_pasI an_pasI cd_pasI ct_pasI), sl_pasI⟩)
    (c_pasI : PySem.W.codeIn K cd_pasI "Passage.__init__" = true)
    (k_pasI : PySem.W.keepIn K (.ref f_pasI) = true)
    (a_psent : PySem.W.findIn K (.ref cP) "sent" = some (some (.ref f_psent)))
    (i_psent : PySem.W.isFn K (.ref f_psent) = true)
    (l_psent : K.lookup f_psent = some ⟨oc_psent, od_psent, .func (PySem.W.fnOf "sent" "Passage.sent" (C8.fnArgs sPasSent) (C8.fnBody sPasSent) (C8.fnScope sPasSent) .none kV_psent dc_psent pm_psent an_psent cd_psent ct_psent), sl_psent⟩)
    (c_psent : PySem.W.codeIn K cd_psent "Passage.sent" = true)
    (k_psent : PySem.W.keepIn K (.ref f_psent) = true)
    (a_pcame : PySem.W.findIn K (.ref cP) "came" = some (some (.ref f_pcame)))
    (i_pcame : PySem.W.isFn K (.ref f_pcame) = true)
    (l_pcame : K.lookup f_pcame = some ⟨oc_pcame, od_pcame, .func (PySem.W.fnOf "came" "Passage.came" (C8.fnArgs sPasCame) (C8.fnBody sPasCame) (C8.fnScope sPasCame) .none kV_pcame dc_pcame pm_pcame an_pcame cd_pcame ct_pcame), sl_pcame⟩)
    (c_pcame : PySem.W.codeIn K cd_pcame "Passage.came" = true)
    (k_pcame : PySem.W.keepIn K (.ref f_pcame) = true)
    (a_sideI : PySem.W.findIn K (.ref cS) "__init__" = some (some (.ref f_sideI)))
    (i_sideI : PySem.W.isFn K (.ref f_sideI) = true)
    (l_sideI : K.lookup f_sideI = some ⟨oc_sideI, od_sideI, .func (PySem.W.fnOf "__init__" "Side.__init__" (C8.fnArgs sSideI) (C8.fnBody sSideI) (C8.fnScope sSideI) .none kV_sideI dc_sideI pm_sideI an_sideI cd_sideI ct_sideI), sl_sideI⟩)
    (c_sideI : PySem.W.codeIn K cd_sideI "Side.__init__" = true)
    (k_sideI : PySem.W.keepIn K (.ref f_sideI) = true)
    (a_ssent : PySem.W.findIn K (.ref cS) "sent" = some (some (.ref f_ssent)))
    (i_ssent : PySem.W.isFn K (.ref f_ssent) = true)
    (l_ssent : K.lookup f_ssent = some ⟨oc_ssent, od_ssent, .func (PySem.W.fnOf "sent" "Side.sent" (C8.fnArgs sSideSent) (C8.fnBody sSideSent) (C8.fnScope sSideSent) .none kV_ssent dc_ssent pm_ssent an_ssent cd_ssent ct_ssent), sl_ssent⟩)
    (c_ssent : PySem.W.codeIn K cd_ssent "Side.sent" = true)
    (k_ssent : PySem.W.keepIn K (.ref f_ssent) = true)
    (a_letsin : PySem.W.findIn K (.ref cS) "lets_in" = some (some (.ref f_letsin)))
    (i_letsin : PySem.W.isFn K (.ref f_letsin) = true)
    (l_letsin : K.lookup f_letsin = some ⟨oc_letsin, od_letsin, .func (PySem.W.fnOf "lets_in" "Side.lets_in" (C8.fnArgs sLetsIn) (C8.fnBody sLetsIn) (C8.fnScope sLetsIn) .none kV_letsin dc_letsin pm_letsin an_letsin cd_letsin ct_letsin), sl_letsin⟩)
    (c_letsin : PySem.W.codeIn K cd_letsin "Side.lets_in" = true)
    (k_letsin : PySem.W.keepIn K (.ref f_letsin) = true)
    (a_learns : PySem.W.findIn K (.ref cS) "learns" = some (some (.ref f_learns)))
    (i_learns : PySem.W.isFn K (.ref f_learns) = true)
    (l_learns : K.lookup f_learns = some ⟨oc_learns, od_learns, .func (PySem.W.fnOf "learns" "Side.learns" (C8.fnArgs sLearns) (C8.fnBody sLearns) (C8.fnScope sLearns) .none kV_learns dc_learns pm_learns an_learns cd_learns ct_learns), sl_learns⟩)
    (c_learns : PySem.W.codeIn K cd_learns "Side.learns" = true)
    (k_learns : PySem.W.keepIn K (.ref f_learns) = true)
    (a_meetI : PySem.W.findIn K (.ref cM) "__init__" = some (some (.ref f_meetI)))
    (i_meetI : PySem.W.isFn K (.ref f_meetI) = true)
    (l_meetI : K.lookup f_meetI = some ⟨oc_meetI, od_meetI, .func (PySem.W.fnOf "__init__" "Meeting.__init__" (C8.fnArgs sMeetI) (C8.fnBody sMeetI) (C8.fnScope sMeetI) .none kV_meetI dc_meetI pm_meetI an_meetI cd_meetI ct_meetI), sl_meetI⟩)
    (c_meetI : PySem.W.codeIn K cd_meetI "Meeting.__init__" = true)
    (k_meetI : PySem.W.keepIn K (.ref f_meetI) = true)
    (a_mside : PySem.W.findIn K (.ref cM) "side" = some (some (.ref f_mside)))
    (i_mside : PySem.W.isFn K (.ref f_mside) = true)
    (l_mside : K.lookup f_mside = some ⟨oc_mside, od_mside, .func (PySem.W.fnOf "side" "Meeting.side" (C8.fnArgs sMside) (C8.fnBody sMside) (C8.fnScope sMside) .none kV_mside dc_mside pm_mside an_mside cd_mside ct_mside), sl_mside⟩)
    (c_mside : PySem.W.codeIn K cd_mside "Meeting.side" = true)
    (k_mside : PySem.W.keepIn K (.ref f_mside) = true)
    (a_known : PySem.W.findIn K (.ref cM) "known" = some (some (.ref f_known)))
    (i_known : PySem.W.isFn K (.ref f_known) = true)
    (l_known : K.lookup f_known = some ⟨oc_known, od_known, .func (PySem.W.fnOf "known" "Meeting.known" (C8.fnArgs sKnown) (C8.fnBody sKnown) (C8.fnScope sKnown) .none kV_known dc_known pm_known an_known cd_known ct_known), sl_known⟩)
    (c_known : PySem.W.codeIn K cd_known "Meeting.known" = true)
    (k_known : PySem.W.keepIn K (.ref f_known) = true)
    (a_heard : PySem.W.findIn K (.ref cM) "heard" = some (some (.ref f_heard)))
    (i_heard : PySem.W.isFn K (.ref f_heard) = true)
    (l_heard : K.lookup f_heard = some ⟨oc_heard, od_heard, .func (PySem.W.fnOf "heard" "Meeting.heard" (C8.fnArgs sHeard) (C8.fnBody sHeard) (C8.fnScope sHeard) .none kV_heard dc_heard pm_heard an_heard cd_heard ct_heard), sl_heard⟩)
    (c_heard : PySem.W.codeIn K cd_heard "Meeting.heard" = true)
    (k_heard : PySem.W.keepIn K (.ref f_heard) = true)
    (a_over : PySem.W.findIn K (.ref cM) "is_over" = some (some (.ref f_over)))
    (i_over : PySem.W.isFn K (.ref f_over) = true)
    (l_over : K.lookup f_over = some ⟨oc_over, od_over, .func (PySem.W.fnOf "is_over" "Meeting.is_over" (C8.fnArgs sIsOver) (C8.fnBody sIsOver) (C8.fnScope sIsOver) .none kV_over dc_over pm_over an_over cd_over ct_over), sl_over⟩)
    (c_over : PySem.W.codeIn K cd_over "Meeting.is_over" = true)
    (k_over : PySem.W.keepIn K (.ref f_over) = true)
    (a_mlen : PySem.W.findIn K (.ref cM) "__len__" = some (some (.ref f_mlen)))
    (i_mlen : PySem.W.isFn K (.ref f_mlen) = true)
    (l_mlen : K.lookup f_mlen = some ⟨oc_mlen, od_mlen, .func (PySem.W.fnOf "__len__" "Meeting.__len__" (C8.fnArgs sMlen) (C8.fnBody sMlen) (C8.fnScope sMlen) .none kV_mlen dc_mlen pm_mlen an_mlen cd_mlen ct_mlen), sl_mlen⟩)
    (c_mlen : PySem.W.codeIn K cd_mlen "Meeting.__len__" = true)
    (k_mlen : PySem.W.keepIn K (.ref f_mlen) = true)
    (a_round : PySem.W.findIn K (.ref cM) "round" = some (some (.ref f_round)))
    (i_round : PySem.W.isFn K (.ref f_round) = true)
    (l_round : K.lookup f_round = some ⟨oc_round, od_round, .func (PySem.W.fnOf "round" "Meeting.round" (C8.fnArgs sRound) (C8.fnBody sRound) (C8.fnScope sRound) .none kV_round dc_round pm_round an_round cd_round ct_round), sl_round⟩)
    (c_round : PySem.W.codeIn K cd_round "Meeting.round" = true)
    (k_round : PySem.W.keepIn K (.ref f_round) = true)
    (a_played : PySem.W.nsIn K mainGlobals "played" = some (some (.ref f_played)))
    (l_played : K.lookup f_played = some ⟨oc_played, od_played, .func (PySem.W.fnOf "played" "played" (C8.fnArgs sPlayed) (C8.fnBody sPlayed) (C8.fnScope sPlayed) .none kV_played dc_played pm_played an_played cd_played ct_played), sl_played⟩)
    (c_played : PySem.W.codeIn K cd_played "played" = true)
    (k_played : PySem.W.keepIn K (.ref f_played) = true)
    (a_meets : PySem.W.nsIn K mainGlobals "meets" = some (some (.ref f_meets)))
    (l_meets : K.lookup f_meets = some ⟨oc_meets, od_meets, .func (PySem.W.fnOf "meets" "meets" (C8.fnArgs sMeets) (C8.fnBody sMeets) (C8.fnScope sMeets) .none kV_meets dc_meets pm_meets an_meets cd_meets ct_meets), sl_meets⟩)
    (c_meets : PySem.W.codeIn K cd_meets "meets" = true)
    (k_meets : PySem.W.keepIn K (.ref f_meets) = true)
    (a_rounds : PySem.W.nsIn K mainGlobals "rounds" = some (some (.ref f_rounds)))
    (l_rounds : K.lookup f_rounds = some ⟨oc_rounds, od_rounds, .func (PySem.W.fnOf "rounds" "rounds" (C8.fnArgs sRounds) (C8.fnBody sRounds) (C8.fnScope sRounds) .none kV_rounds dc_rounds pm_rounds an_rounds cd_rounds ct_rounds), sl_rounds⟩)
    (c_rounds : PySem.W.codeIn K cd_rounds "rounds" = true)
    (k_rounds : PySem.W.keepIn K (.ref f_rounds) = true)
    (a_begin : PySem.W.nsIn K mainGlobals "_law_begin" = some (some (.ref f_begin)))
    (l_begin : K.lookup f_begin = some ⟨oc_begin, od_begin, .func (PySem.W.fnOf "_law_begin" "_law_begin" (C8.fnArgs sBegin) (C8.fnBody sBegin) (C8.fnScope sBegin) .none kV_begin dc_begin pm_begin an_begin cd_begin ct_begin), sl_begin⟩)
    (c_begin : PySem.W.codeIn K cd_begin "_law_begin" = true)
    (k_begin : PySem.W.keepIn K (.ref f_begin) = true)
    (a_mixed : PySem.W.nsIn K mainGlobals "_law_mixed" = some (some (.ref f_mixed)))
    (l_mixed : K.lookup f_mixed = some ⟨oc_mixed, od_mixed, .func (PySem.W.fnOf "_law_mixed" "_law_mixed" (C8.fnArgs sMixed) (C8.fnBody sMixed) (C8.fnScope sMixed) .none kV_mixed dc_mixed pm_mixed an_mixed cd_mixed ct_mixed), sl_mixed⟩)
    (c_mixed : PySem.W.codeIn K cd_mixed "_law_mixed" = true)
    (k_mixed : PySem.W.keepIn K (.ref f_mixed) = true)
    (a_draw : PySem.W.nsIn K mainGlobals "_law_draw" = some (some (.ref f_draw)))
    (l_draw : K.lookup f_draw = some ⟨oc_draw, od_draw, .func (PySem.W.fnOf "_law_draw" "_law_draw" (C8.fnArgs sDraw) (C8.fnBody sDraw) (C8.fnScope sDraw) .none kV_draw dc_draw pm_draw an_draw cd_draw ct_draw), sl_draw⟩)
    (c_draw : PySem.W.codeIn K cd_draw "_law_draw" = true)
    (k_draw : PySem.W.keepIn K (.ref f_draw) = true)
    (a_due : PySem.W.nsIn K mainGlobals "_law_due" = some (some (.ref f_due)))
    (l_due : K.lookup f_due = some ⟨oc_due, od_due, .func (PySem.W.fnOf "_law_due" "_law_due" (C8.fnArgs sDue) (C8.fnBody sDue) (C8.fnScope sDue) .none kV_due dc_due pm_due an_due cd_due ct_due), sl_due⟩)
    (c_due : PySem.W.codeIn K cd_due "_law_due" = true)
    (k_due : PySem.W.keepIn K (.ref f_due) = true)
    (a_law : PySem.W.nsIn K mainGlobals "law" = some (some (.ref f_law)))
    (l_law : K.lookup f_law = some ⟨oc_law, od_law, .func (PySem.W.fnOf "law" "law" (C8.fnArgs sLaw) (C8.fnBody sLaw) (C8.fnScope sLaw) .none kV_law dc_law pm_law an_law cd_law ct_law), sl_law⟩)
    (c_law : PySem.W.codeIn K cd_law "law" = true)
    (k_law : PySem.W.keepIn K (.ref f_law) = true)
    (haD : PySem.W.findIn K (.ref cD) "__class__" = some (some (.builtin "object.__class__")))
    (hmD : PySem.W.mroIn K cD (.type "object") = some true)
    (haE : PySem.W.findIn K (.ref cE) "__class__" = some (some (.builtin "object.__class__")))
    (hmE : PySem.W.mroIn K cE (.type "object") = some true)
    (hn : PySem.W.specialIn K (.builtin "object.__class__") "__get__" = some (some (.builtin "getset_descriptor.__get__")))
    (htk : PySem.W.takesIn K (.builtin "object.__class__") = some true)
    (b_isinstance : PySem.W.nsIn K mainGlobals "isinstance" = some none)
    (b_len : PySem.W.nsIn K mainGlobals "len" = some none)
    (b_tuple : PySem.W.nsIn K mainGlobals "tuple" = some none)
    (b_sorted : PySem.W.nsIn K mainGlobals "sorted" = some none)
    (b_all : PySem.W.nsIn K mainGlobals "all" = some none)
    (b_range : PySem.W.nsIn K mainGlobals "range" = some none)
    (b_str : PySem.W.nsIn K mainGlobals "str" = some none)
    (b_int : PySem.W.nsIn K mainGlobals "int" = some none)
    (b_abs : PySem.W.nsIn K mainGlobals "abs" = some none)
    (a_maps : PySem.W.nsIn K mainGlobals "MAPS" = some (some (.ref t_maps)))
    (l_maps : K.lookup t_maps = some o_maps)
    (e_maps : o_maps.cls = .type "tuple")
    (d_maps : o_maps.data = .seq its_maps m_maps)
    (z_maps : its_maps.size ≤ sizeLine)
    (v_maps : Vals [.str "one", .str "each"] its_maps.toList)
    (a_filters : PySem.W.nsIn K mainGlobals "FILTERS" = some (some (.ref t_filters)))
    (l_filters : K.lookup t_filters = some o_filters)
    (e_filters : o_filters.cls = .type "tuple")
    (d_filters : o_filters.data = .seq its_filters m_filters)
    (z_filters : its_filters.size ≤ sizeLine)
    (v_filters : Vals [.str "any", .str "house", .str "door"] its_filters.toList)
    (a_places : PySem.W.nsIn K mainGlobals "PLACES" = some (some (.ref t_places)))
    (l_places : K.lookup t_places = some o_places)
    (e_places : o_places.cls = .type "tuple")
    (d_places : o_places.data = .seq its_places m_places)
    (z_places : its_places.size ≤ sizeLine)
    (v_places : Vals [.str "x", .str "y"] its_places.toList)
    (a_house : PySem.W.nsIn K mainGlobals "HOUSE" = some (some (.ref t_house)))
    (l_house : K.lookup t_house = some o_house)
    (e_house : o_house.cls = .type "tuple")
    (d_house : o_house.data = .seq its_house m_house)
    (z_house : its_house.size ≤ sizeLine)
    (v_house : Vals [.str "house", .int 0] its_house.toList)
    (a_most : PySem.W.nsIn K mainGlobals "MOST_DOORS" = some (some (.int 3 t_most)))
    (lT0 : K.lookup T0 = some o_T0)
    (dT0 : o_T0.data = .seq its_T0 m_T0)
    (vT0 : Vals [.str "one", .str "any"] its_T0.toList) :
    ∃ fd : FuncData, (∀ (s : Shared) (v : Value), BindsTo s fd ⟨[v], []⟩ [("_law_script", v)]) ∧ ∀ base : Heap, K.In base → base.Ns mainGlobals mg → FnOk l.prog w K mg base C8.CX0 9 fa fd ["_law_script"] (spLaw ⟨l.prog, w, K, ⟨0, 0, 0, 0, 0⟩⟩) := by
  have e := hfa.symm.trans (PySem.W.mg_of X N a_law)
  cases e
  have clD : Cls K cD := ⟨pgD, hdD, poD, saD⟩
  have clE : Cls K cE := ⟨pgE, hdE, poE, saE⟩
  have clP : Cls K cP := ⟨pgP, hdP, poP, saP⟩
  have clS : Cls K cS := ⟨pgS, hdS, poS, saS⟩
  have clM : Cls K cM := ⟨pgM, hdM, poM, saM⟩
  have T : Txt K mg ⟨cD, cE, cP, cS, cM⟩ := ⟨clD, clE, clP, clS, clM, nD_kept_gives, nD_kept_lets, nE_kept_doors, nP_door, nP_inner_of, nP_by_key, nP_sent_to, nS_place, nS_passages, nS_addresses, nS_has_heard, nM_sides, nM_own_rounds, nM_is_stuck, PySem.W.mg_of X N aD, PySem.W.mg_of X N aE, PySem.W.mg_of X N aP, PySem.W.mg_of X N aS, PySem.W.mg_of X N aM, ⟨clD, haD, hn, htk, hmD, if_pos (beq_self_eq_true _)⟩, ⟨clE, haE, hn, htk, hmE, if_pos (beq_self_eq_true _)⟩, PySem.W.mg_none_of X N b_isinstance, PySem.W.mg_none_of X N b_len, PySem.W.mg_none_of X N b_tuple, PySem.W.mg_none_of X N b_sorted, PySem.W.mg_none_of X N b_all, PySem.W.mg_none_of X N b_range, PySem.W.mg_none_of X N b_str, PySem.W.mg_none_of X N b_int, PySem.W.mg_none_of X N b_abs, ⟨t_maps, PySem.W.mg_of X N a_maps, o_maps, its_maps, m_maps, l_maps, e_maps, d_maps, z_maps, v_maps⟩, ⟨t_filters, PySem.W.mg_of X N a_filters, o_filters, its_filters, m_filters, l_filters, e_filters, d_filters, z_filters, v_filters⟩, ⟨t_places, PySem.W.mg_of X N a_places, o_places, its_places, m_places, l_places, e_places, d_places, z_places, v_places⟩, ⟨t_house, PySem.W.mg_of X N a_house, o_house, its_house, m_house, l_house, e_house, d_house, z_house, v_house⟩, ⟨_, PySem.W.mg_of X N a_most⟩⟩
  have F_isfil : C8.Fun K "is_filter" "is_filter" sIsFil f_isfil _ := ⟨_, _, _, _, _, _, _, _, _, _, rfl, l_isfil, c_isfil⟩
  have F_doorI : C8.Fun K "__init__" "Door.__init__" sDoorI f_doorI _ := ⟨_, _, _, _, _, _, _, _, _, _, rfl, l_doorI, c_doorI⟩
  have F_gives : C8.Fun K "gives" "Door.gives" sGives f_gives _ := ⟨_, _, _, _, _, _, _, _, _, _, rfl, l_gives, c_gives⟩
  have F_letsg : C8.Fun K "lets" "Door.lets" sLets f_letsg _ := ⟨_, _, _, _, _, _, _, _, _, _, rfl, l_letsg, c_letsg⟩
  have F_six : C8.Fun K "six" "Door.six" sSix f_six _ := ⟨_, _, _, _, _, _, _, _, _, _, rfl, l_six, c_six⟩
  have F_doors : C8.Fun K "doors" "End.doors" sDoors f_doors _ := ⟨_, _, _, _, _, _, _, _, _, _, rfl, l_doors, c_doors⟩
  have F_pasI : C8.Fun K "__init__" "Passage.__init__" sPasI f_pasI _ := ⟨_, _, _, _, _, _, _, _, _, _, rfl, l_pasI, c_pasI⟩
  have F_psent : C8.Fun K "sent" "Passage.sent" sPasSent f_psent _ := ⟨_, _, _, _, _, _, _, _, _, _, rfl, l_psent, c_psent⟩
  have F_pcame : C8.Fun K "came" "Passage.came" sPasCame f_pcame _ := ⟨_, _, _, _, _, _, _, _, _, _, rfl, l_pcame, c_pcame⟩
  have F_sideI : C8.Fun K "__init__" "Side.__init__" sSideI f_sideI _ := ⟨_, _, _, _, _, _, _, _, _, _, rfl, l_sideI, c_sideI⟩
  have F_ssent : C8.Fun K "sent" "Side.sent" sSideSent f_ssent _ := ⟨_, _, _, _, _, _, _, _, _, _, rfl, l_ssent, c_ssent⟩
  have F_letsin : C8.Fun K "lets_in" "Side.lets_in" sLetsIn f_letsin _ := ⟨_, _, _, _, _, _, _, _, _, _, rfl, l_letsin, c_letsin⟩
  have F_learns : C8.Fun K "learns" "Side.learns" sLearns f_learns _ := ⟨_, _, _, _, _, _, _, _, _, _, rfl, l_learns, c_learns⟩
  have F_meetI : C8.Fun K "__init__" "Meeting.__init__" sMeetI f_meetI _ := ⟨_, _, _, _, _, _, _, _, _, _, rfl, l_meetI, c_meetI⟩
  have F_mside : C8.Fun K "side" "Meeting.side" sMside f_mside _ := ⟨_, _, _, _, _, _, _, _, _, _, rfl, l_mside, c_mside⟩
  have F_known : C8.Fun K "known" "Meeting.known" sKnown f_known _ := ⟨_, _, _, _, _, _, _, _, _, _, rfl, l_known, c_known⟩
  have F_heard : C8.Fun K "heard" "Meeting.heard" sHeard f_heard _ := ⟨_, _, _, _, _, _, _, _, _, _, rfl, l_heard, c_heard⟩
  have F_over : C8.Fun K "is_over" "Meeting.is_over" sIsOver f_over _ := ⟨_, _, _, _, _, _, _, _, _, _, rfl, l_over, c_over⟩
  have F_mlen : C8.Fun K "__len__" "Meeting.__len__" sMlen f_mlen _ := ⟨_, _, _, _, _, _, _, _, _, _, rfl, l_mlen, c_mlen⟩
  have F_round : C8.Fun K "round" "Meeting.round" sRound f_round _ := ⟨_, _, _, _, _, _, _, _, _, _, rfl, l_round, c_round⟩
  have F_played : C8.Fun K "played" "played" sPlayed f_played _ := ⟨_, _, _, _, _, _, _, _, _, _, rfl, l_played, c_played⟩
  have F_meets : C8.Fun K "meets" "meets" sMeets f_meets _ := ⟨_, _, _, _, _, _, _, _, _, _, rfl, l_meets, c_meets⟩
  have F_rounds : C8.Fun K "rounds" "rounds" sRounds f_rounds _ := ⟨_, _, _, _, _, _, _, _, _, _, rfl, l_rounds, c_rounds⟩
  have F_begin : C8.Fun K "_law_begin" "_law_begin" sBegin f_begin _ := ⟨_, _, _, _, _, _, _, _, _, _, rfl, l_begin, c_begin⟩
  have F_mixed : C8.Fun K "_law_mixed" "_law_mixed" sMixed f_mixed _ := ⟨_, _, _, _, _, _, _, _, _, _, rfl, l_mixed, c_mixed⟩
  have F_draw : C8.Fun K "_law_draw" "_law_draw" sDraw f_draw _ := ⟨_, _, _, _, _, _, _, _, _, _, rfl, l_draw, c_draw⟩
  have F_due : C8.Fun K "_law_due" "_law_due" sDue f_due _ := ⟨_, _, _, _, _, _, _, _, _, _, rfl, l_due, c_due⟩
  have F_law : C8.Fun K "law" "law" sLaw fa _ := ⟨_, _, _, _, _, _, _, _, _, _, rfl, l_law, c_law⟩
  have b_isfil := F_isfil.binds rfl (ps := ["value"]) fun _ _ _ _ _ _ us hl => match us, hl with | [_], _ => rfl
  have b_gives := F_gives.binds rfl (ps := ["self"]) fun _ _ _ _ _ _ us hl => match us, hl with | [_], _ => rfl
  have b_letsg := F_letsg.binds rfl (ps := ["self"]) fun _ _ _ _ _ _ us hl => match us, hl with | [_], _ => rfl
  have b_six := F_six.binds rfl (ps := []) fun _ _ _ _ _ _ us hl => match us, hl with | [], _ => rfl
  have b_doors := F_doors.binds rfl (ps := ["self"]) fun _ _ _ _ _ _ us hl => match us, hl with | [_], _ => rfl
  have b_pasI := F_pasI.binds rfl (ps := ["self", "door"]) fun _ _ _ _ _ _ us hl => match us, hl with | [_, _], _ => rfl
  have b_psent := F_psent.binds rfl (ps := ["self", "inner", "address"]) fun _ _ _ _ _ _ us hl => match us, hl with | [_, _, _], _ => rfl
  have b_pcame := F_pcame.binds rfl (ps := ["self", "number", "address"]) fun _ _ _ _ _ _ us hl => match us, hl with | [_, _, _], _ => rfl
  have b_sideI := F_sideI.binds rfl (ps := ["self", "end", "place"]) fun _ _ _ _ _ _ us hl => match us, hl with | [_, _, _], _ => rfl
  have b_ssent := F_ssent.binds rfl (ps := ["self", "address"]) fun _ _ _ _ _ _ us hl => match us, hl with | [_, _], _ => rfl
  have b_letsin := F_letsin.binds rfl (ps := ["self", "number", "address"]) fun _ _ _ _ _ _ us hl => match us, hl with | [_, _, _], _ => rfl
  have b_learns := F_learns.binds rfl (ps := ["self", "address"]) fun _ _ _ _ _ _ us hl => match us, hl with | [_, _], _ => rfl
  have b_meetI := F_meetI.binds rfl (ps := ["self", "x", "y"]) fun _ _ _ _ _ _ us hl => match us, hl with | [_, _, _], _ => rfl
  have b_mside := F_mside.binds rfl (ps := ["self", "place"]) fun _ _ _ _ _ _ us hl => match us, hl with | [_, _], _ => rfl
  have b_known := F_known.binds rfl (ps := ["self", "place"]) fun _ _ _ _ _ _ us hl => match us, hl with | [_, _], _ => rfl
  have b_heard := F_heard.binds rfl (ps := ["self", "place"]) fun _ _ _ _ _ _ us hl => match us, hl with | [_, _], _ => rfl
  have b_over := F_over.binds rfl (ps := ["self"]) fun _ _ _ _ _ _ us hl => match us, hl with | [_], _ => rfl
  have b_mlen := F_mlen.binds rfl (ps := ["self"]) fun _ _ _ _ _ _ us hl => match us, hl with | [_], _ => rfl
  have b_round := F_round.binds rfl (ps := ["self"]) fun _ _ _ _ _ _ us hl => match us, hl with | [_], _ => rfl
  have b_played := F_played.binds rfl (ps := ["x", "y"]) fun _ _ _ _ _ _ us hl => match us, hl with | [_, _], _ => rfl
  have b_meets := F_meets.binds rfl (ps := ["x", "y"]) fun _ _ _ _ _ _ us hl => match us, hl with | [_, _], _ => rfl
  have b_rounds := F_rounds.binds rfl (ps := ["x", "y"]) fun _ _ _ _ _ _ us hl => match us, hl with | [_, _], _ => rfl
  have b_begin := F_begin.binds rfl (ps := ["_law_script"]) fun _ _ _ _ _ _ us hl => match us, hl with | [_], _ => rfl
  have b_mixed := F_mixed.binds rfl (ps := ["_law_pool", "_law_many"]) fun _ _ _ _ _ _ us hl => match us, hl with | [_, _], _ => rfl
  have b_draw := F_draw.binds rfl (ps := ["_law_pool", "_law_many"]) fun _ _ _ _ _ _ us hl => match us, hl with | [_, _], _ => rfl
  have b_due := F_due.binds rfl (ps := ["_law_one", "_law_other"]) fun _ _ _ _ _ _ us hl => match us, hl with | [_, _], _ => rfl
  have b_doorI : Binds K (PySem.W.fnOf "__init__" "Door.__init__" (C8.fnArgs sDoorI) (C8.fnBody sDoorI) (C8.fnScope sDoorI) (.ref T0) kV_doorI dc_doorI pm_doorI an_doorI cd_doorI ct_doorI) ["self", "gives", "lets"] [] := by
    have D : FunD K "__init__" "Door.__init__" (C8.fnArgs sDoorI) (C8.fnBody sDoorI) (C8.fnScope sDoorI) [.str "one", .str "any"] [] f_doorI (PySem.W.fnOf "__init__" "Door.__init__" (C8.fnArgs sDoorI) (C8.fnBody sDoorI) (C8.fnScope sDoorI) (.ref T0) kV_doorI dc_doorI pm_doorI an_doorI cd_doorI ct_doorI) :=
      ⟨⟨_, _, _, _, _, _, _, _, _, _, rfl, l_doorI, c_doorI, .inr ⟨by simp, T0, o_T0, its_T0.toList, m_T0, rfl, lT0, by rw [dT0, Array.toArray_toList], vT0⟩, .inl rfl⟩, k_doorI⟩
    obtain ⟨ds, v, b⟩ := D.binds1 (ps := ["self", "gives", "lets"]) 3 2 (by simp) rfl fun T kV doc pm an cdv ct us its h1 h2 => match us, its, h1, h2 with
      | [_, _, _], [_, _], _, _ => ⟨_, rfl, rfl⟩
    cases v
    exact b
  exact ⟨PySem.W.fnOf "law" "law" (C8.fnArgs sLaw) (C8.fnBody sLaw) (C8.fnScope sLaw) .none kV_law dc_law pm_law an_law cd_law ct_law, fun s v => .of_eq rfl, fun base _ _ => by
    let G : Gx := ⟨l.prog, w, K, ⟨cD, cE, cP, cS, cM⟩⟩
    have T : Txt G.K mg G.c := T
    have cIF : C8.Cal G.P G.w G.K mg base 1 "is_filter" (spIsFil G) [] := ⟨f_isfil, _, _, [], ok_isfil F_isfil T, PySem.W.mg_of X N a_isfil, k_isfil, b_isfil, .nil⟩
    have mD : C8.Mak G.P G.w G.K mg base 2 "Door" G.c.door (spDoorI G) [] := ⟨f_doorI, _, _, [], ⟨mkD, a_doorI, i_doorI, kcD⟩, ok_doorI F_doorI T cIF, PySem.W.mg_of X N aD, b_doorI, .nil⟩
    have pG : Prp G.P G.w G.K mg base 1 G.c.door "gives" "kept_gives" := ⟨p_gives, f_gives, _, clD, ⟨a_gives, g_gives, t_gives, _, r_gives⟩, fn_getter l_gives c_gives (N := ["self"]) (C8.fnScope_by (by decide +kernel)) rfl rfl clD nD_kept_gives, b_gives⟩
    have pL : Prp G.P G.w G.K mg base 1 G.c.door "lets" "kept_lets" := ⟨p_letsg, f_letsg, _, clD, ⟨a_letsg, g_letsg, t_letsg, _, r_letsg⟩, fn_getter l_letsg c_letsg (N := ["self"]) (C8.fnScope_by (by decide +kernel)) rfl rfl clD nD_kept_lets, b_letsg⟩
    have pD : Prp G.P G.w G.K mg base 1 G.c.end_ "doors" "kept_doors" := ⟨p_doors, f_doors, _, clE, ⟨a_doors, g_doors, t_doors, _, r_doors⟩, fn_getter l_doors c_doors (N := ["self"]) (C8.fnScope_by (by decide +kernel)) rfl rfl clE nE_kept_doors, b_doors⟩
    have mP : C8.Mak G.P G.w G.K mg base 1 "Passage" G.c.pas (spPasI G) [] := ⟨f_pasI, _, _, [], ⟨mkP, a_pasI, i_pasI, kcP⟩, ok_pasI F_pasI T, PySem.W.mg_of X N aP, b_pasI, .nil⟩
    have mPs : C8.Met G.P G.w G.K mg base 3 G.c.pas "sent" (spSent G) [] := ⟨f_psent, _, _, [], clP, ⟨a_psent, i_psent, k_psent⟩, ok_sent F_psent T pG, b_psent, .nil⟩
    have mPc : C8.Met G.P G.w G.K mg base 3 G.c.pas "came" (spCame G) [] := ⟨f_pcame, _, _, [], clP, ⟨a_pcame, i_pcame, k_pcame⟩, ok_came F_pcame T pL, b_pcame, .nil⟩
    have mS : C8.Mak G.P G.w G.K mg base 3 "Side" G.c.side (spSideI G) [] := ⟨f_sideI, _, _, [], ⟨mkS, a_sideI, i_sideI, kcS⟩, ok_sideI F_sideI T pD mP, PySem.W.mg_of X N aS, b_sideI, .nil⟩
    have mSs : C8.Met G.P G.w G.K mg base 4 G.c.side "sent" (spSSent G) [] := ⟨f_ssent, _, _, [], clS, ⟨a_ssent, i_ssent, k_ssent⟩, ok_ssent F_ssent T mPs, b_ssent, .nil⟩
    have mSl : C8.Met G.P G.w G.K mg base 4 G.c.side "lets_in" (spLets G) [] := ⟨f_letsin, _, _, [], clS, ⟨a_letsin, i_letsin, k_letsin⟩, ok_lets F_letsin T mPc, b_letsin, .nil⟩
    have mSn : C8.Met G.P G.w G.K mg base 1 G.c.side "learns" (spLearns G) [] := ⟨f_learns, _, _, [], clS, ⟨a_learns, i_learns, k_learns⟩, ok_learns F_learns T, b_learns, .nil⟩
    have mM : C8.Mak G.P G.w G.K mg base 5 "Meeting" G.c.meet (spMeetI G) [] := ⟨f_meetI, _, _, [], ⟨mkM, a_meetI, i_meetI, kcM⟩, ok_meetI F_meetI T mS mSs mSn, PySem.W.mg_of X N aM, b_meetI, .nil⟩
    have mMs : C8.Met G.P G.w G.K mg base 1 G.c.meet "side" (spMside G) [] := ⟨f_mside, _, _, [], clM, ⟨a_mside, i_mside, k_mside⟩, ok_mside F_mside T, b_mside, .nil⟩
    have mMk : C8.Met G.P G.w G.K mg base 2 G.c.meet "known" (spKnown G) [] := ⟨f_known, _, _, [], clM, ⟨a_known, i_known, k_known⟩, ok_known F_known T mMs, b_known, .nil⟩
    have mMh : C8.Met G.P G.w G.K mg base 2 G.c.meet "heard" (spHeard G) [] := ⟨f_heard, _, _, [], clM, ⟨a_heard, i_heard, k_heard⟩, ok_heard F_heard T mMs, b_heard, .nil⟩
    have mMo : C8.Met G.P G.w G.K mg base 3 G.c.meet "is_over" (spOver G) [] := ⟨f_over, _, _, [], clM, ⟨a_over, i_over, k_over⟩, ok_over F_over T mMh, b_over, .nil⟩
    have mMr : C8.Met G.P G.w G.K mg base 5 G.c.meet "round" (spRound G) [] := ⟨f_round, _, _, [], clM, ⟨a_round, i_round, k_round⟩, ok_round F_round T mMo mMk mSs mSl mSn, b_round, .nil⟩
    have cPl : C8.Cal G.P G.w G.K mg base 7 "played" (spPlayed G) [] := ⟨f_played, _, _, [], ok_played F_played T mM mMo mMr, PySem.W.mg_of X N a_played, k_played, b_played, .nil⟩
    have cMe : C8.Cal G.P G.w G.K mg base 8 "meets" (spMeets G) [] := ⟨f_meets, _, _, [], ok_meets F_meets T cPl mMh, PySem.W.mg_of X N a_meets, k_meets, b_meets, .nil⟩
    have cRo : C8.Cal G.P G.w G.K mg base 8 "rounds" (spRounds G) [] := ⟨f_rounds, _, _, [], ok_rounds F_rounds T cPl mMh a_mlen i_mlen (ok_mlen F_mlen T) b_mlen, PySem.W.mg_of X N a_rounds, k_rounds, b_rounds, .nil⟩
    have cBe : C8.Cal G.P G.w G.K mg base 1 "_law_begin" (spBegin G) [] := ⟨f_begin, _, _, [], ok_begin F_begin T, PySem.W.mg_of X N a_begin, k_begin, b_begin, .nil⟩
    have cMi : C8.Cal G.P G.w G.K mg base 1 "_law_mixed" (spMixed G) [] := ⟨f_mixed, _, _, [], ok_mixed F_mixed T, PySem.W.mg_of X N a_mixed, k_mixed, b_mixed, .nil⟩
    have cDr : C8.Cal G.P G.w G.K mg base 2 "_law_draw" (spDraw G) [] := ⟨f_draw, _, _, [], ok_draw F_draw T cMi, PySem.W.mg_of X N a_draw, k_draw, b_draw, .nil⟩
    have cDu : C8.Cal G.P G.w G.K mg base 1 "_law_due" (spDue G) [] := ⟨f_due, _, _, [], ok_due F_due T, PySem.W.mg_of X N a_due, k_due, b_due, .nil⟩
    exact ok_law (G := G) F_law T cBe cDr cDu cMe cRo pG pL ⟨rd_six, ga_six, a_six, ⟨_, r_six⟩, k_six⟩ (ok_six F_six T mD) b_six ⟨mkE, a_endI, i_endI, kcE⟩ (ok_endI l_endI c_endI (StX.bind_star1 (B := fun us => bindArgs (PySem.W.fnOf "__init__" "End.__init__" (C8.fnArgs sEndI) (C8.fnBody sEndI) (C8.fnScope sEndI) .none kV_endI dc_endI pm_endI an_endI cd_endI ct_endI) ⟨us, []⟩) (p1 := "self") (pv := "doors") (fun _ => rfl) (fun _ _ _ => rfl)) T)⟩
theorem walk {l : PySem.W.OpenLaw} {q : Program} {loose : List Str} {XP : (Str → Option Value) → Heap → Prop} {YP : World → Heap → Prop} {d : DefRec} {K : Params → PySem.W.Frag} (hn : l.most = some 63) (hdf : d.params.defaults = [])
    (hY : ∀ (w : World) (h : Heap), YP w h → (K w.params).In h)
    (F : ∀ (w : World) (mg : Str → Option Value) (fa : Addr) (h : Heap), (K w.params).In h → h.Ns mainGlobals mg → mg d.name = some (.ref fa) →
      ∃ fd : FuncData, (∀ (s : Shared) (u : Value), BindsTo s fd ⟨[u], []⟩ [("_law_script", u)]) ∧ ∀ base : Heap, (K w.params).In base → base.Ns mainGlobals mg → FnOk l.prog w (K w.params) mg base C8.CX0 9 fa fd ["_law_script"] (spLaw ⟨l.prog, w, K w.params, ⟨0, 0, 0, 0, 0⟩⟩)) :
    PySem.W.WalkO q loose XP YP l.row.toRowW d [] (fun f vs => PySem.call f vs) :=
  L2.walk_of (n := 63) (k := 9) (x := "_law_script") (CX := fun _ => C8.CX0) (sp := fun w => spLaw ⟨l.prog, w, K w.params, ⟨0, 0, 0, 0, 0⟩⟩) hn (by decide) hdf ⟨rfl, by decide, by decide⟩ hY F (fun _ _ a ns hl _ hS => ⟨a, ns, rfl, hS, hl, fun _ => rfl⟩) fun _ _ _ _ _ z => z
end QD


open PySem PySem.W PyProof.Rows
set_option Elab.async false
set_option linter.all false
set_option maxRecDepth 100000 in
set_option maxHeartbeats 0 in
theorem PySem.Challenge.cw_quietdoors_k59_whole_table_of_doors_holds : PySem.Challenge.rw_quietdoors_k59_whole_table_of_doors.Holds := by
  w_on; o_law; k_head; (case hw => w_witness2)
  k_fill
  refine QD.walk (l := PySem.Challenge.rw_quietdoors_k59_whole_table_of_doors) rfl rfl (fun w h Y => PySem.W.kIn_of Y) ?F
  case F =>
    intro w mg fa h KX G hmg
    refine' QD.all_mk KX G hmg ?aD ?aE ?aP ?aS ?aM ?pgD ?hdD ?poD ?saD ?mkD ?kcD ?pgE ?hdE ?poE ?saE ?mkE ?kcE ?pgP ?hdP ?poP ?saP ?mkP ?kcP ?pgS ?hdS ?poS ?saS ?mkS ?kcS ?pgM ?hdM ?poM ?saM ?mkM ?kcM ?nD_kept_gives ?nD_kept_lets ?nE_kept_doors ?nP_door ?nP_inner_of ?nP_by_key ?nP_sent_to ?nS_place ?nS_passages ?nS_addresses ?nS_has_heard ?nM_sides ?nM_own_rounds ?nM_is_stuck ?a_isfil ?l_isfil ?c_isfil ?k_isfil ?a_doorI ?i_doorI ?l_doorI ?c_doorI ?k_doorI ?a_gives ?g_gives ?t_gives ?r_gives ?l_gives ?c_gives ?k_gives ?a_letsg ?g_letsg ?t_letsg ?r_letsg ?l_letsg ?c_letsg ?k_letsg ?rd_six ?ga_six ?a_six ?r_six ?l_six ?c_six ?k_six ?a_endI ?i_endI ?l_endI ?c_endI ?k_endI ?a_doors ?g_doors ?t_doors ?r_doors ?l_doors ?c_doors ?k_doors ?a_pasI ?i_pasI ?l_pasI ?c_pasI ?k_pasI ?a_psent ?i_psent ?l_psent ?c_psent ?k_psent ?a_pcame ?i_pcame ?l_pcame ?c_pcame ?k_pcame ?a_sideI ?i_sideI ?l_sideI ?c_sideI ?k_sideI ?a_ssent ?i_ssent ?l_ssent ?c_ssent ?k_ssent ?a_letsin ?i_letsin ?l_letsin ?c_letsin ?k_letsin ?a_learns ?i_learns ?l_learns ?c_learns ?k_learns ?a_meetI ?i_meetI ?l_meetI ?c_meetI ?k_meetI ?a_mside ?i_mside ?l_mside ?c_mside ?k_mside ?a_known ?i_known ?l_known ?c_known ?k_known ?a_heard ?i_heard ?l_heard ?c_heard ?k_heard ?a_over ?i_over ?l_over ?c_over ?k_over ?a_mlen ?i_mlen ?l_mlen ?c_mlen ?k_mlen ?a_round ?i_round ?l_round ?c_round ?k_round ?a_played ?l_played ?c_played ?k_played ?a_meets ?l_meets ?c_meets ?k_meets ?a_rounds ?l_rounds ?c_rounds ?k_rounds ?a_begin ?l_begin ?c_begin ?k_begin ?a_mixed ?l_mixed ?c_mixed ?k_mixed ?a_draw ?l_draw ?c_draw ?k_draw ?a_due ?l_due ?c_due ?k_due ?a_law ?l_law ?c_law ?k_law ?haD ?hmD ?haE ?hmE ?hn ?htk ?b_isinstance ?b_len ?b_tuple ?b_sorted ?b_all ?b_range ?b_str ?b_int ?b_abs ?a_maps ?l_maps ?e_maps ?d_maps ?z_maps ?v_maps ?a_filters ?l_filters ?e_filters ?d_filters ?z_filters ?v_filters ?a_places ?l_places ?e_places ?d_places ?z_places ?v_places ?a_house ?l_house ?e_house ?d_house ?z_house ?v_house ?a_most ?lT0 ?dT0 ?vT0
    (case aD => k_is)
    (case aE => k_is)
    (case aP => k_is)
    (case aS => k_is)
    (case aM => k_is)
    (case pgD => k_is)
    (case hdD => k_is)
    (case poD => k_is)
    (case saD => k_is)
    (case mkD => k_is)
    (case kcD => k_is)
    (case pgE => k_is)
    (case hdE => k_is)
    (case poE => k_is)
    (case saE => k_is)
    (case mkE => k_is)
    (case kcE => k_is)
    (case pgP => k_is)
    (case hdP => k_is)
    (case poP => k_is)
    (case saP => k_is)
    (case mkP => k_is)
    (case kcP => k_is)
    (case pgS => k_is)
    (case hdS => k_is)
    (case poS => k_is)
    (case saS => k_is)
    (case mkS => k_is)
    (case kcS => k_is)
    (case pgM => k_is)
    (case hdM => k_is)
    (case poM => k_is)
    (case saM => k_is)
    (case mkM => k_is)
    (case kcM => k_is)
    (case nD_kept_gives => k_is)
    (case nD_kept_lets => k_is)
    (case nE_kept_doors => k_is)
    (case nP_door => k_is)
    (case nP_inner_of => k_is)
    (case nP_by_key => k_is)
    (case nP_sent_to => k_is)
    (case nS_place => k_is)
    (case nS_passages => k_is)
    (case nS_addresses => k_is)
    (case nS_has_heard => k_is)
    (case nM_sides => k_is)
    (case nM_own_rounds => k_is)
    (case nM_is_stuck => k_is)
    (case a_isfil => k_is)
    (case l_isfil => k_is)
    (case c_isfil => k_is)
    (case k_isfil => k_is)
    (case a_doorI => k_is)
    (case i_doorI => k_is)
    (case l_doorI => k_is)
    (case c_doorI => k_is)
    (case k_doorI => k_is)
    (case a_gives => k_is)
    (case g_gives => k_is)
    (case t_gives => k_is)
    (case r_gives => k_is)
    (case l_gives => k_is)
    (case c_gives => k_is)
    (case k_gives => k_is)
    (case a_letsg => k_is)
    (case g_letsg => k_is)
    (case t_letsg => k_is)
    (case r_letsg => k_is)
    (case l_letsg => k_is)
    (case c_letsg => k_is)
    (case k_letsg => k_is)
    (case rd_six => k_is)
    (case ga_six => k_is)
    (case a_six => k_is)
    (case r_six => k_is)
    (case l_six => k_is)
    (case c_six => k_is)
    (case k_six => k_is)
    (case a_endI => k_is)
    (case i_endI => k_is)
    (case l_endI => k_is)
    (case c_endI => k_is)
    (case k_endI => k_is)
    (case a_doors => k_is)
    (case g_doors => k_is)
    (case t_doors => k_is)
    (case r_doors => k_is)
    (case l_doors => k_is)
    (case c_doors => k_is)
    (case k_doors => k_is)
    (case a_pasI => k_is)
    (case i_pasI => k_is)
    (case l_pasI => k_is)
    (case c_pasI => k_is)
    (case k_pasI => k_is)
    (case a_psent => k_is)
    (case i_psent => k_is)
    (case l_psent => k_is)
    (case c_psent => k_is)
    (case k_psent => k_is)
    (case a_pcame => k_is)
    (case i_pcame => k_is)
    (case l_pcame => k_is)
    (case c_pcame => k_is)
    (case k_pcame => k_is)
    (case a_sideI => k_is)
    (case i_sideI => k_is)
    (case l_sideI => k_is)
    (case c_sideI => k_is)
    (case k_sideI => k_is)
    (case a_ssent => k_is)
    (case i_ssent => k_is)
    (case l_ssent => k_is)
    (case c_ssent => k_is)
    (case k_ssent => k_is)
    (case a_letsin => k_is)
    (case i_letsin => k_is)
    (case l_letsin => k_is)
    (case c_letsin => k_is)
    (case k_letsin => k_is)
    (case a_learns => k_is)
    (case i_learns => k_is)
    (case l_learns => k_is)
    (case c_learns => k_is)
    (case k_learns => k_is)
    (case a_meetI => k_is)
    (case i_meetI => k_is)
    (case l_meetI => k_is)
    (case c_meetI => k_is)
    (case k_meetI => k_is)
    (case a_mside => k_is)
    (case i_mside => k_is)
    (case l_mside => k_is)
    (case c_mside => k_is)
    (case k_mside => k_is)
    (case a_known => k_is)
    (case i_known => k_is)
    (case l_known => k_is)
    (case c_known => k_is)
    (case k_known => k_is)
    (case a_heard => k_is)
    (case i_heard => k_is)
    (case l_heard => k_is)
    (case c_heard => k_is)
    (case k_heard => k_is)
    (case a_over => k_is)
    (case i_over => k_is)
    (case l_over => k_is)
    (case c_over => k_is)
    (case k_over => k_is)
    (case a_mlen => k_is)
    (case i_mlen => k_is)
    (case l_mlen => k_is)
    (case c_mlen => k_is)
    (case k_mlen => k_is)
    (case a_round => k_is)
    (case i_round => k_is)
    (case l_round => k_is)
    (case c_round => k_is)
    (case k_round => k_is)
    (case a_played => k_is)
    (case l_played => k_is)
    (case c_played => k_is)
    (case k_played => k_is)
    (case a_meets => k_is)
    (case l_meets => k_is)
    (case c_meets => k_is)
    (case k_meets => k_is)
    (case a_rounds => k_is)
    (case l_rounds => k_is)
    (case c_rounds => k_is)
    (case k_rounds => k_is)
    (case a_begin => k_is)
    (case l_begin => k_is)
    (case c_begin => k_is)
    (case k_begin => k_is)
    (case a_mixed => k_is)
    (case l_mixed => k_is)
    (case c_mixed => k_is)
    (case k_mixed => k_is)
    (case a_draw => k_is)
    (case l_draw => k_is)
    (case c_draw => k_is)
    (case k_draw => k_is)
    (case a_due => k_is)
    (case l_due => k_is)
    (case c_due => k_is)
    (case k_due => k_is)
    (case a_law => k_is)
    (case l_law => k_is)
    (case c_law => k_is)
    (case k_law => k_is)
    (case haD => k_is)
    (case hmD => k_is)
    (case haE => k_is)
    (case hmE => k_is)
    (case hn => k_is)
    (case htk => k_is)
    (case b_isinstance => k_is)
    (case b_len => k_is)
    (case b_tuple => k_is)
    (case b_sorted => k_is)
    (case b_all => k_is)
    (case b_range => k_is)
    (case b_str => k_is)
    (case b_int => k_is)
    (case b_abs => k_is)
    (case a_maps => k_is)
    (case l_maps => k_is)
    (case e_maps => rfl)
    (case d_maps => rfl)
    (case z_maps => decide)
    (case v_maps => exact (.cons ⟨_, rfl⟩ (.cons ⟨_, rfl⟩ .nil)))
    (case a_filters => k_is)
    (case l_filters => k_is)
    (case e_filters => rfl)
    (case d_filters => rfl)
    (case z_filters => decide)
    (case v_filters => exact (.cons ⟨_, rfl⟩ (.cons ⟨_, rfl⟩ (.cons ⟨_, rfl⟩ .nil))))
    (case a_places => k_is)
    (case l_places => k_is)
    (case e_places => rfl)
    (case d_places => rfl)
    (case z_places => decide)
    (case v_places => exact (.cons ⟨_, rfl⟩ (.cons ⟨_, rfl⟩ .nil)))
    (case a_house => k_is)
    (case l_house => k_is)
    (case e_house => rfl)
    (case d_house => rfl)
    (case z_house => decide)
    (case v_house => exact (.cons ⟨_, rfl⟩ (.cons ⟨_, rfl⟩ .nil)))
    (case a_most => k_is)
    (case lT0 => k_is)
    (case dT0 => rfl)
    (case vT0 => exact (.cons ⟨_, rfl⟩ (.cons ⟨_, rfl⟩ .nil)))

