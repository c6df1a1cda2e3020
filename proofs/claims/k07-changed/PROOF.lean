import PyProof.Rows.All
import Wide.All
import OpenK.AllK
import Wide.FinOn
import HandS.ForMost
import HandS.TupAny
import HandS.TupLe
import HandS.IsInst
import HandS.Text
import PyProof.NeData
import PyProof.EqLayable
import HandS.Walk
import HandS.Ends
import HandS.Words
import KE.SortKeyHeap
import HandS.SortKw
import HandS.Exc
import HandS.DictTup
import HandS.Iter
import HandS.Conv
import HandS.More
import HandS.DictEq
import PyProof.DictFindH
import PySem.Challenge.RW_holeform_k07_changed
set_option Elab.async false
set_option linter.all false
set_option maxRecDepth 100000
set_option autoImplicit false
/-! Layer A, part 1: abstract values, the store, how they lie in the heap of the hand layer. -/
namespace HA
open PySem PySem.Spec PyProof.Rows L2

inductive DK where
  | k (k : Key) | t (ks : List Key)
  deriving DecidableEq
/-- values: tuples, lists and dicts that no one changes any more are told by what they hold; cells of the store by number -/
inductive AV where
  | non | bl (b : Bool) | int (i : Int) | str (x : Str) | ref (n : Nat)
  | tup (xs : List AV) | fl (xs : List AV) | sl (xs : List AV) | fd (ks : List DK) (xs : List AV) | raw (v : V)
inductive Cell where
  | lst (xs : List AV) | dct (ks : List DK) (xs : List AV) | ins (C : Addr) (fs : List (Str × AV)) | gone
abbrev Sto := List Cell

/-- the cells' addresses; addresses that are kept for a list in the making -/
structure MM where
  c : List Addr
  r : List Addr
def Pin (H : Hp) (m : MM) (a : Addr) (o : HO) : Prop := H a = some o ∧ a ∉ m.c ∧ a ∉ m.r
def KL (K : PySem.W.Frag) (a : Addr) (xs : List V) : Prop := ∃ (o : Obj) (its : Array Value) (n : Nat), K.lookup a = some o ∧ o.cls = .type "list" ∧ o.dict = none ∧ o.data = .seq its n ∧ its.size ≤ sizeLine ∧ Vals xs its.toList
def KT (K : PySem.W.Frag) (a : Addr) (xs : List V) : Prop := ∃ (o : Obj) (its : Array Value) (n : Nat), K.lookup a = some o ∧ o.cls = .type "tuple" ∧ o.data = .seq its n ∧ its.size ≤ sizeLine ∧ Vals xs its.toList
def AtT (_ : PySem.W.Frag) (H : Hp) (m : MM) (a : Addr) (vs : List V) : Prop := Pin H m a (.tup vs)
def NoDic : HO → Prop
  | .dK _ => False
  | .dT _ => False
  | _ => True
/-- a dict's object may be held from now on -/
def Fz (o o' : HO) : Prop := o' = o ∨ (¬ NoDic o ∧ ∃ b, o' = .frz b o)
theorem Fz.trans {o p q : HO} (h : Fz o p) (k : Fz p q) : Fz o q := by
  rcases h with rfl | ⟨n, b, rfl⟩
  · exact k
  · rcases k with rfl | ⟨n', _⟩
    · exact .inr ⟨n, b, rfl⟩
    · exact absurd (show NoDic (.frz b o) from trivial) n'
theorem Fz.eq {o p : HO} (h : Fz o p) (n : NoDic o) : p = o := h.elim id fun z => absurd n z.1
def PinD (H : Hp) (m : MM) (a : Addr) (o : HO) : Prop := Pin H m a o ∨ ∃ b, Pin H m a (.frz b o)
def AtS (K : PySem.W.Frag) (H : Hp) (m : MM) (a : Addr) (vs : List V) : Prop := Pin H m a (.lst vs) ∨ (∃ o, Pin H m a (.frz o (.lst vs))) ∨ KL K a vs
theorem AtT.seq {K : PySem.W.Frag} {H : Hp} {m : MM} {a : Addr} {vs : List V} (h : AtT K H m a vs) : SqT K H a vs := by
  exact .inl (.inl h.1)
theorem AtS.seq {K : PySem.W.Frag} {H : Hp} {m : MM} {a : Addr} {vs : List V} (h : AtS K H m a vs) : SqL K H a vs := by
  rcases h with h | ⟨o, h⟩ | h
  · exact .inl (.inl h.1)
  · exact .inl (.inr ⟨o, h.1⟩)
  · exact .inr h
theorem Pin.seqL {K : PySem.W.Frag} {H : Hp} {m : MM} {a : Addr} {vs : List V} (h : Pin H m a (.lst vs)) : SqL K H a vs := .inl (.inl h.1)

/-- how a dict's keys and values lie in what stands tracked -/
def DRep (R : List AV → List V → Prop) (ks : List DK) (xs : List AV) (o : HO) : Prop :=
  (∃ kvs : List (Key × V), o = .dK kvs ∧ ks = kvs.map (fun p => DK.k p.1) ∧ R xs (kvs.map (·.2))) ∨
  (∃ kvs : List (List Key × V), (o = .dT kvs ∧ kvs ≠ []) ∧ ks = kvs.map (fun p => DK.t p.1) ∧ R xs (kvs.map (·.2)))

section
variable (K : PySem.W.Frag) (H : Hp) (m : MM)
mutual
def RepV : AV → V → Prop
  | .non, v => v = .non
  | .bl b, v => v = .bl b
  | .int i, v => v = .int i
  | .str x, v => v = .str x
  | .ref n, v => ∃ a, m.c[n]? = some a ∧ v = .ref a
  | .tup xs, v => ∃ a vs, v = .ref a ∧ AtT K H m a vs ∧ vs.length ≤ sizeLine ∧ RepVs xs vs
  | .fl xs, v => ∃ a vs, v = .ref a ∧ Pin H m a (.lst vs) ∧ vs.length ≤ sizeLine ∧ RepVs xs vs
  | .sl xs, v => ∃ a vs, v = .ref a ∧ AtS K H m a vs ∧ vs.length ≤ sizeLine ∧ RepVs xs vs
  | .fd ks xs, v => ∃ a o, v = .ref a ∧ PinD H m a o ∧ xs.length ≤ sizeLine ∧ ((∃ kvs : List (Key × V), o = .dK kvs ∧ ks = kvs.map (fun p => DK.k p.1) ∧ RepVs xs (kvs.map (·.2))) ∨
      (∃ kvs : List (List Key × V), (o = .dT kvs ∧ kvs ≠ []) ∧ ks = kvs.map (fun p => DK.t p.1) ∧ RepVs xs (kvs.map (·.2))))
  | .raw u, v => v = u
def RepVs : List AV → List V → Prop
  | [], vs => vs = []
  | x :: xs, vs => ∃ v r, vs = v :: r ∧ RepV x v ∧ RepVs xs r
end
def RepC : Cell → Addr → Prop
  | .lst xs, a => ∃ vs, H a = some (.lst vs) ∧ vs.length ≤ sizeLine ∧ RepVs K H m xs vs
  | .dct ks xs, a => ∃ o, H a = some o ∧ xs.length ≤ sizeLine ∧ DRep (RepVs K H m) ks xs o
  | .ins C fs, a => ∃ dx gs, H a = some (.ins C dx gs) ∧ gs.map (·.1) = fs.map (·.1) ∧ RepVs K H m (fs.map (·.2)) (gs.map (·.2))
  | .gone, _ => False
structure RepS (S : Sto) : Prop where
  len : m.c.length = S.length
  nd : m.c.Nodup
  at_ : ∀ (i : Nat) (c : Cell) (a : Addr), S[i]? = some c → m.c[i]? = some a → RepC K H m c a
  res : ∀ a ∈ m.r, ∃ xs, H a = some (.lst xs)
  dj : ∀ a ∈ m.c, a ∉ m.r
end

/-- what a step of the program may do to the heap -/
structure Stp (H : Hp) (m : MM) (H' : Hp) (m' : MM) : Prop where
  pre : m.c <+: m'.c
  old : ∀ a o, H a = some o → a ∉ m.c → ∃ o', H' a = some o' ∧ Fz o o'
  newc : ∀ a, a ∈ m'.c → a ∈ m.c ∨ H a = none
  newr : ∀ a, a ∈ m'.r → a ∈ m.r ∨ H a = none
  keep : ∀ a, a ∈ m.r → a ∈ m'.r
  live : ∀ a o, H a = some o → ∃ o', H' a = some o'
theorem Stp.refl (H : Hp) (m : MM) : Stp H m H m := ⟨List.prefix_rfl, fun _ _ h _ => ⟨_, h, .inl rfl⟩, fun _ h => .inl h, fun _ h => .inl h, fun _ h => h, fun _ _ h => ⟨_, h⟩⟩
theorem Stp.back {H H1 : Hp} {m m1 : MM} (s : Stp H m H1 m1) {a : Addr} (h : H1 a = none) : H a = none := by
  cases q : H a with
  | none => rfl
  | some o =>
    obtain ⟨o', e⟩ := s.live a o q
    rw [h] at e; cases e
theorem Stp.trans {H H1 H2 : Hp} {m m1 m2 : MM} (s : Stp H m H1 m1) (t : Stp H1 m1 H2 m2) : Stp H m H2 m2 := by
  refine ⟨s.pre.trans t.pre, fun a o h n => ?_, fun a h => ?_, fun a h => ?_, fun a h => t.keep a (s.keep a h), fun a o h => ?_⟩
  · obtain ⟨o1, e1, f1⟩ := s.old a o h n
    obtain ⟨o2, e2, f2⟩ := t.old a o1 e1 fun z => by
      rcases s.newc a z with y | y
      · exact n y
      · rw [h] at y; cases y
    exact ⟨o2, e2, f1.trans f2⟩
  · rcases t.newc a h with y | y
    · exact s.newc a y
    · exact .inr (s.back y)
  · rcases t.newr a h with y | y
    · exact s.newr a y
    · exact .inr (s.back y)
  · obtain ⟨o', e⟩ := s.live a o h
    exact t.live a o' e
theorem Pin.stp' {H H' : Hp} {m m' : MM} {a : Addr} {o : HO} (s : Stp H m H' m') (p : Pin H m a o) : ∃ o', Pin H' m' a o' ∧ Fz o o' := by
  obtain ⟨o', e, f⟩ := s.old a o p.1 p.2.1
  refine ⟨o', ⟨e, fun z => ?_, fun z => ?_⟩, f⟩
  · rcases s.newc a z with y | y
    · exact p.2.1 y
    · rw [p.1] at y; cases y
  · rcases s.newr a z with y | y
    · exact p.2.2 y
    · rw [p.1] at y; cases y
theorem Pin.stp {H H' : Hp} {m m' : MM} {a : Addr} {o : HO} (s : Stp H m H' m') (p : Pin H m a o) (nd : NoDic o := by exact True.intro) : Pin H' m' a o := by
  obtain ⟨o', q, f⟩ := p.stp' s
  rw [← f.eq nd]
  exact q
theorem PinD.stp {H H' : Hp} {m m' : MM} {a : Addr} {o : HO} (s : Stp H m H' m') (p : PinD H m a o) : PinD H' m' a o := by
  rcases p with p | ⟨b, p⟩
  · obtain ⟨o', q, f⟩ := p.stp' s
    rcases f with rfl | ⟨_, b, rfl⟩
    · exact .inl q
    · exact .inr ⟨b, q⟩
  · exact .inr ⟨b, p.stp s⟩
theorem AtT.stp {K : PySem.W.Frag} {H H' : Hp} {m m' : MM} {a : Addr} {vs : List V} (s : Stp H m H' m') (h : AtT K H m a vs) : AtT K H' m' a vs := Pin.stp s h
theorem AtS.stp {K : PySem.W.Frag} {H H' : Hp} {m m' : MM} {a : Addr} {vs : List V} (s : Stp H m H' m') (h : AtS K H m a vs) : AtS K H' m' a vs := by
  rcases h with h | ⟨o, h⟩ | h
  · exact .inl (h.stp s)
  · exact .inr (.inl ⟨o, h.stp s⟩)
  · exact .inr (.inr h)
section
variable {K : PySem.W.Frag} {H H' : Hp} {m m' : MM}
theorem pre_get {i : Nat} {a : Addr} (p : m.c <+: m'.c) (h : m.c[i]? = some a) : m'.c[i]? = some a := by
  obtain ⟨r, e⟩ := p
  rw [← e, List.getElem?_append_left (by
    obtain ⟨z, _⟩ := List.getElem?_eq_some_iff.mp h
    exact z)]
  exact h
mutual
theorem RepV.stp (s : Stp H m H' m') : ∀ (x : AV) (v : V), RepV K H m x v → RepV K H' m' x v
  | .non, v, h => h
  | .bl b, v, h => h
  | .int i, v, h => h
  | .str x, v, h => h
  | .raw x, v, h => h
  | .ref n, v, h => by
    obtain ⟨a, h1, h2⟩ := h
    exact ⟨a, pre_get s.pre h1, h2⟩
  | .tup xs, v, h => by
    obtain ⟨a, vs, h1, h2, h3, h4⟩ := h
    exact ⟨a, vs, h1, h2.stp s, h3, RepVs.stp s xs vs h4⟩
  | .fl xs, v, h => by
    obtain ⟨a, vs, h1, h2, h3, h4⟩ := h
    exact ⟨a, vs, h1, h2.stp s, h3, RepVs.stp s xs vs h4⟩
  | .sl xs, v, h => by
    obtain ⟨a, vs, h1, h2, h3, h4⟩ := h
    exact ⟨a, vs, h1, h2.stp s, h3, RepVs.stp s xs vs h4⟩
  | .fd ks xs, v, h => by
    obtain ⟨a, o, h1, h2, hz, h3⟩ := h
    refine ⟨a, o, h1, h2.stp s, hz, ?_⟩
    rcases h3 with ⟨kvs, e1, e2, h4⟩ | ⟨kvs, e1, e2, h4⟩
    · exact .inl ⟨kvs, e1, e2, RepVs.stp s xs _ h4⟩
    · exact .inr ⟨kvs, e1, e2, RepVs.stp s xs _ h4⟩
theorem RepVs.stp (s : Stp H m H' m') : ∀ (xs : List AV) (vs : List V), RepVs K H m xs vs → RepVs K H' m' xs vs
  | [], vs, h => h
  | x :: xs, vs, h => by
    obtain ⟨v, r, e, h1, h2⟩ := h
    exact ⟨v, r, e, RepV.stp s x v h1, RepVs.stp s xs r h2⟩
end
theorem DRep.stp {ks : List DK} {xs : List AV} {o : HO} (s : Stp H m H' m') (h : DRep (RepVs K H m) ks xs o) : DRep (RepVs K H' m') ks xs o := by
  rcases h with ⟨kvs, e1, e2, h4⟩ | ⟨kvs, e1, e2, h4⟩
  · exact .inl ⟨kvs, e1, e2, RepVs.stp s xs _ h4⟩
  · exact .inr ⟨kvs, e1, e2, RepVs.stp s xs _ h4⟩
/-- a cell whose own object is as it was -/
theorem RepC.stp {c : Cell} {a : Addr} (s : Stp H m H' m') (e : H' a = H a) (h : RepC K H m c a) : RepC K H' m' c a := by
  cases c with
  | lst xs =>
    obtain ⟨vs, h1, h2, h3⟩ := h
    exact ⟨vs, e.trans h1, h2, RepVs.stp s _ _ h3⟩
  | dct ks xs =>
    obtain ⟨o, h1, h2, h3⟩ := h
    exact ⟨o, e.trans h1, h2, h3.stp s⟩
  | ins C fs =>
    obtain ⟨dx, gs, h1, h2, h3⟩ := h
    exact ⟨dx, gs, e.trans h1, h2, RepVs.stp s _ _ h3⟩
  | gone => exact h.elim
theorem RepC.obj {c : Cell} {a : Addr} (h : RepC K H m c a) : ∃ o, H a = some o := by
  cases c with
  | lst xs => obtain ⟨vs, h1, _⟩ := h; exact ⟨_, h1⟩
  | dct ks xs => obtain ⟨o, h1, _⟩ := h; exact ⟨_, h1⟩
  | ins C fs => obtain ⟨dx, gs, h1, _⟩ := h; exact ⟨_, h1⟩
  | gone => exact h.elim
theorem RepS.obj {S : Sto} {a : Addr} (r : RepS K H m S) (h : a ∈ m.c) : ∃ o, H a = some o := by
  obtain ⟨i, hi⟩ := List.mem_iff_getElem?.mp h
  have hl : i < S.length := by
    obtain ⟨z, _⟩ := List.getElem?_eq_some_iff.mp hi
    rw [← r.len]; exact z
  exact (r.at_ i _ a (List.getElem?_eq_getElem hl) hi).obj
theorem RepS.fresh {S : Sto} {p : Addr} (r : RepS K H m S) (h : H p = none) : p ∉ m.c := fun z => by
  obtain ⟨o, e⟩ := r.obj z
  rw [h] at e; cases e
theorem RepS.freshR {S : Sto} {p : Addr} (r : RepS K H m S) (h : H p = none) : p ∉ m.r := fun z => by
  obtain ⟨o, e⟩ := r.res p z
  rw [h] at e; cases e
/-! ### the three moves -/
/-- a new object, known by what it holds -/
theorem stp_new {p : Addr} {o : HO} (h : H p = none) : Stp H m (upd H p o) m := by
  refine ⟨List.prefix_rfl, fun a u e _ => ⟨u, ?_, .inl rfl⟩, fun a z => .inl z, fun a z => .inl z, fun a z => z, fun a u e => ?_⟩
  · rw [upd_ne (ne_of_none e h)]; exact e
  · exact ⟨u, by rw [upd_ne (ne_of_none e h)]; exact e⟩
theorem live_upd {p a : Addr} {o u : HO} (e : H a = some u) : ∃ o', upd H p o a = some o' := by
  by_cases h : a = p
  · subst h; exact ⟨o, upd_same⟩
  · exact ⟨u, by rw [upd_ne h]; exact e⟩
theorem RepS.new {S : Sto} {p : Addr} {o : HO} (r : RepS K H m S) (h : H p = none) : RepS K (upd H p o) m S := by
  refine ⟨r.len, r.nd, fun i c a e1 e2 => (r.at_ i c a e1 e2).stp (stp_new h) ?_, fun a ha => ?_, ?_⟩
  · rw [upd_ne]
    rintro rfl
    exact r.fresh h (List.mem_of_getElem? e2)
  · obtain ⟨u, e⟩ := r.res a ha
    exact ⟨u, by rw [upd_ne (ne_of_none e h)]; exact e⟩
  · exact r.dj
theorem pin_new {S : Sto} {p : Addr} {o : HO} (r : RepS K H m S) (h : H p = none) : Pin (upd H p o) m p o := ⟨upd_same, r.fresh h, r.freshR h⟩
/-- a new cell -/
abbrev MM.snoc (m : MM) (p : Addr) : MM := ⟨m.c ++ [p], m.r⟩
theorem stp_cell {p : Addr} {o : HO} (h : H p = none) : Stp H m (upd H p o) (m.snoc p) := by
  refine ⟨List.prefix_append _ _, fun a u e _ => ⟨u, ?_, .inl rfl⟩, fun a z => ?_, fun a z => .inl z, fun a z => z, fun a u e => ?_⟩
  · rw [upd_ne (ne_of_none e h)]; exact e
  · rcases List.mem_append.mp z with z | z
    · exact .inl z
    · rw [List.mem_singleton] at z
      subst z
      exact .inr h
  · exact ⟨u, by rw [upd_ne (ne_of_none e h)]; exact e⟩
theorem RepS.cell {S : Sto} {p : Addr} {o : HO} {c : Cell} (r : RepS K H m S) (h : H p = none) (hc : RepC K (upd H p o) (m.snoc p) c p) : RepS K (upd H p o) (m.snoc p) (S ++ [c]) := by
  have np := r.fresh h
  refine ⟨by simp [r.len], ?_, fun i c' a e1 e2 => ?_, fun a ha => ?_, fun a ha => ?_⟩
  · rw [List.nodup_append]
    refine ⟨r.nd, by simp, fun a ha b hb e => ?_⟩
    rw [List.mem_singleton] at hb
    subst hb; subst e
    exact np ha
  · by_cases hi : i < S.length
    · rw [List.getElem?_append_left hi] at e1
      rw [List.getElem?_append_left (by rw [r.len]; exact hi)] at e2
      refine (r.at_ i c' a e1 e2).stp (stp_cell h) ?_
      rw [upd_ne]
      rintro rfl
      exact np (List.mem_of_getElem? e2)
    · have hi' : i = S.length := by
        obtain ⟨z, _⟩ := List.getElem?_eq_some_iff.mp e1
        rw [List.length_append, List.length_singleton] at z
        omega
      subst hi'
      have x1 : c' = c := by simpa using e1.symm
      have x2 : a = p := by
        rw [← r.len] at e2
        simpa using e2.symm
      subst x1; subst x2
      exact hc
  · obtain ⟨u, e⟩ := r.res a ha
    exact ⟨u, by rw [upd_ne (ne_of_none e h)]; exact e⟩
  · rcases List.mem_append.mp ha with z | z
    · exact r.dj a z
    · rw [List.mem_singleton] at z
      subst z
      exact r.freshR h
/-- a cell changed -/
theorem stp_set {a : Addr} {o : HO} {i : Nat} (hi : m.c[i]? = some a) : Stp H m (upd H a o) m := by
  have ha := List.mem_of_getElem? hi
  refine ⟨List.prefix_rfl, fun b u e n => ⟨u, ?_, .inl rfl⟩, fun b z => .inl z, fun b z => .inl z, fun b z => z, fun b u e => live_upd e⟩
  rw [upd_ne (fun z => n (by rw [z]; exact ha))]; exact e
theorem RepS.set {S : Sto} {a : Addr} {o : HO} {i : Nat} {c : Cell} (r : RepS K H m S) (hi : m.c[i]? = some a) (hc : RepC K (upd H a o) m c a) : RepS K (upd H a o) m (S.set i c) := by
  refine ⟨by rw [List.length_set]; exact r.len, r.nd, fun j c' b e1 e2 => ?_, fun b hb => ?_, r.dj⟩
  · by_cases hj : j = i
    · subst hj
      have hb : b = a := by rw [hi] at e2; exact (Option.some.inj e2).symm
      subst hb
      rw [List.getElem?_set_self (by
        obtain ⟨z, _⟩ := List.getElem?_eq_some_iff.mp e2
        rw [← r.len]; exact z)] at e1
      cases e1
      exact hc
    · rw [List.getElem?_set_ne (Ne.symm hj)] at e1
      refine (r.at_ j c' b e1 e2).stp (stp_set hi) ?_
      rw [upd_ne]
      rintro rfl
      exact hj ((List.getElem?_inj (List.getElem?_eq_some_iff.mp e2).1 r.nd).mp (e2.trans hi.symm))
  · obtain ⟨u, e⟩ := r.res b hb
    exact ⟨u, by rw [upd_ne (fun z => r.dj a (List.mem_of_getElem? hi) (by rw [← z]; exact hb))]; exact e⟩
theorem RepS.ix {S : Sto} {i : Nat} {c : Cell} (r : RepS K H m S) (h : S[i]? = some c) : ∃ a, m.c[i]? = some a ∧ RepC K H m c a := by
  have hl : i < m.c.length := by
    obtain ⟨z, _⟩ := List.getElem?_eq_some_iff.mp h
    rw [r.len]; exact z
  exact ⟨_, List.getElem?_eq_getElem hl, r.at_ i c _ h (List.getElem?_eq_getElem hl)⟩
/-- a tracked tuple is no cell, nor kept -/
theorem RepS.pinT {S : Sto} {q : Addr} {vs : List V} (r : RepS K H m S) (h : H q = some (.tup vs)) : Pin H m q (.tup vs) := by
  refine ⟨h, fun z => ?_, fun z => ?_⟩
  · obtain ⟨i, hi⟩ := List.mem_iff_getElem?.mp z
    have hl : i < S.length := by
      obtain ⟨z, _⟩ := List.getElem?_eq_some_iff.mp hi
      rw [← r.len]; exact z
    have rc := r.at_ i _ q (List.getElem?_eq_getElem hl) hi
    generalize S[i] = c at rc
    cases c with
    | lst xs => obtain ⟨us, e, _⟩ := rc; rw [h] at e; cases e
    | dct ks xs =>
      obtain ⟨o, e, _, d⟩ := rc
      rcases d with ⟨kvs, rfl, _⟩ | ⟨kvs, ⟨rfl, _⟩, _⟩
      · rw [h] at e; cases e
      · rw [h] at e; cases e
    | ins C fs => obtain ⟨dx, gs, e, _⟩ := rc; rw [h] at e; cases e
    | gone => exact rc.elim
  · obtain ⟨us, e⟩ := r.res q z
    rw [h] at e; cases e
/-! ### an address is kept for a list in the making -/
abbrev MM.res (m : MM) (D : Addr) : MM := ⟨m.c, D :: m.r⟩
abbrev MM.free (m : MM) (D : Addr) : MM := ⟨m.c, m.r.filter (fun a => decide (a ≠ D))⟩
theorem stp_res {D : Addr} {o : HO} (h : H D = none) : Stp H m (upd H D o) (m.res D) := by
  refine ⟨List.prefix_rfl, fun a u e _ => ⟨u, ?_, .inl rfl⟩, fun a z => .inl z, fun a z => ?_, fun a z => List.mem_cons_of_mem _ z, fun a u e => live_upd e⟩
  · rw [upd_ne (ne_of_none e h)]; exact e
  · rcases List.mem_cons.mp z with z | z
    · subst z; exact .inr h
    · exact .inl z
theorem RepS.hold {S : Sto} {D : Addr} {vs : List V} (r : RepS K H m S) (h : H D = none) : RepS K (upd H D (.lst vs)) (m.res D) S := by
  refine ⟨r.len, r.nd, fun i c a e1 e2 => (r.at_ i c a e1 e2).stp (stp_res h) ?_, fun a ha => ?_, fun a ha z => ?_⟩
  · rw [upd_ne]
    rintro rfl
    exact r.fresh h (List.mem_of_getElem? e2)
  · rcases List.mem_cons.mp ha with z | z
    · subst z; exact ⟨vs, upd_same⟩
    · obtain ⟨u, e⟩ := r.res a z
      exact ⟨u, by rw [upd_ne (ne_of_none e h)]; exact e⟩
  · rcases List.mem_cons.mp z with z | z
    · subst z; exact r.fresh h ha
    · exact r.dj a ha z
/-- what is kept may change, nothing tells of it -/
structure Chg (H : Hp) (m : MM) (H' : Hp) (m' : MM) : Prop where
  c : m.c = m'.c
  at_ : ∀ a o, Pin H m a o → Pin H' m' a o
theorem AtT.chg {a : Addr} {vs : List V} (s : Chg H m H' m') (h : AtT K H m a vs) : AtT K H' m' a vs := s.at_ _ _ h
theorem PinD.chg {a : Addr} {o : HO} (s : Chg H m H' m') (h : PinD H m a o) : PinD H' m' a o := h.imp (s.at_ _ _) fun ⟨b, z⟩ => ⟨b, s.at_ _ _ z⟩
theorem AtS.chg {a : Addr} {vs : List V} (s : Chg H m H' m') (h : AtS K H m a vs) : AtS K H' m' a vs := by
  rcases h with h | ⟨o, h⟩ | h
  · exact .inl (s.at_ _ _ h)
  · exact .inr (.inl ⟨o, s.at_ _ _ h⟩)
  · exact .inr (.inr h)
mutual
theorem RepV.chg (s : Chg H m H' m') : ∀ (x : AV) (v : V), RepV K H m x v → RepV K H' m' x v
  | .non, v, h => h
  | .bl b, v, h => h
  | .int i, v, h => h
  | .str x, v, h => h
  | .raw x, v, h => h
  | .ref n, v, h => by
    obtain ⟨a, h1, h2⟩ := h
    exact ⟨a, by rw [← s.c]; exact h1, h2⟩
  | .tup xs, v, h => by
    obtain ⟨a, vs, h1, h2, h3, h4⟩ := h
    exact ⟨a, vs, h1, h2.chg s, h3, RepVs.chg s xs vs h4⟩
  | .fl xs, v, h => by
    obtain ⟨a, vs, h1, h2, h3, h4⟩ := h
    exact ⟨a, vs, h1, s.at_ _ _ h2, h3, RepVs.chg s xs vs h4⟩
  | .sl xs, v, h => by
    obtain ⟨a, vs, h1, h2, h3, h4⟩ := h
    exact ⟨a, vs, h1, h2.chg s, h3, RepVs.chg s xs vs h4⟩
  | .fd ks xs, v, h => by
    obtain ⟨a, o, h1, h2, hz, h3⟩ := h
    refine ⟨a, o, h1, h2.chg s, hz, ?_⟩
    rcases h3 with ⟨kvs, e1, e2, h4⟩ | ⟨kvs, e1, e2, h4⟩
    · exact .inl ⟨kvs, e1, e2, RepVs.chg s xs _ h4⟩
    · exact .inr ⟨kvs, e1, e2, RepVs.chg s xs _ h4⟩
theorem RepVs.chg (s : Chg H m H' m') : ∀ (xs : List AV) (vs : List V), RepVs K H m xs vs → RepVs K H' m' xs vs
  | [], vs, h => h
  | x :: xs, vs, h => by
    obtain ⟨v, r, e, h1, h2⟩ := h
    exact ⟨v, r, e, RepV.chg s x v h1, RepVs.chg s xs r h2⟩
end
theorem DRep.chg {ks : List DK} {xs : List AV} {o : HO} (s : Chg H m H' m') (h : DRep (RepVs K H m) ks xs o) : DRep (RepVs K H' m') ks xs o := by
  rcases h with ⟨kvs, e1, e2, h4⟩ | ⟨kvs, e1, e2, h4⟩
  · exact .inl ⟨kvs, e1, e2, RepVs.chg s xs _ h4⟩
  · exact .inr ⟨kvs, e1, e2, RepVs.chg s xs _ h4⟩
theorem RepC.chg {c : Cell} {a : Addr} (s : Chg H m H' m') (e : H' a = H a) (h : RepC K H m c a) : RepC K H' m' c a := by
  cases c with
  | lst xs =>
    obtain ⟨vs, h1, h2, h3⟩ := h
    exact ⟨vs, e.trans h1, h2, RepVs.chg s _ _ h3⟩
  | dct ks xs =>
    obtain ⟨o, h1, h2, h3⟩ := h
    exact ⟨o, e.trans h1, h2, h3.chg s⟩
  | ins C fs =>
    obtain ⟨dx, gs, h1, h2, h3⟩ := h
    exact ⟨dx, gs, e.trans h1, h2, RepVs.chg s _ _ h3⟩
  | gone => exact h.elim
theorem chg_upd {D : Addr} {o : HO} (h : D ∈ m.r) : Chg H m (upd H D o) m := by
  refine ⟨rfl, fun a u p => ⟨?_, p.2⟩⟩
  rw [upd_ne (fun z => p.2.2 (by rw [z]; exact h))]
  exact p.1
theorem chg_free {D : Addr} : Chg H m H (m.free D) := by
  refine ⟨rfl, fun a u p => ⟨p.1, p.2.1, fun z => p.2.2 (List.mem_filter.mp z).1⟩⟩
theorem RepS.chgUpd {S : Sto} {D : Addr} {vs : List V} (r : RepS K H m S) (h : D ∈ m.r) (hc : D ∉ m.c) : RepS K (upd H D (.lst vs)) m S := by
  refine ⟨r.len, r.nd, fun i c a e1 e2 => (r.at_ i c a e1 e2).chg (chg_upd h) ?_, fun a ha => ?_, r.dj⟩
  · rw [upd_ne]
    rintro rfl
    exact hc (List.mem_of_getElem? e2)
  · obtain ⟨u, e⟩ := r.res a ha
    by_cases z : a = D
    · subst z; exact ⟨vs, upd_same⟩
    · exact ⟨u, by rw [upd_ne z]; exact e⟩
theorem RepS.chgFree {S : Sto} {D : Addr} (r : RepS K H m S) : RepS K H (m.free D) S :=
  ⟨r.len, r.nd, fun i c a e1 e2 => (r.at_ i c a e1 e2).chg chg_free rfl, fun a ha => r.res a (List.mem_filter.mp ha).1, fun a ha z => r.dj a ha (List.mem_filter.mp z).1⟩
end
/-! ### lists -/
section
variable {K : PySem.W.Frag} {H : Hp} {m : MM}
theorem RepVs.length : ∀ {xs : List AV} {vs : List V}, RepVs K H m xs vs → xs.length = vs.length
  | [], _, h => by cases h; rfl
  | _ :: xs, _, h => by
    obtain ⟨v, r, rfl, _, h2⟩ := h
    rw [List.length_cons, List.length_cons, h2.length]
theorem RepVs.get : ∀ {xs : List AV} {vs : List V} {i : Nat} {x : AV}, RepVs K H m xs vs → xs[i]? = some x → ∃ v, vs[i]? = some v ∧ RepV K H m x v
  | [], _, _, _, _, e => by simp at e
  | y :: xs, _, 0, x, h, e => by
    obtain ⟨v, r, rfl, h1, _⟩ := h
    simp at e; subst e
    exact ⟨v, rfl, h1⟩
  | y :: xs, _, i + 1, x, h, e => by
    obtain ⟨v, r, rfl, _, h2⟩ := h
    obtain ⟨u, a, b⟩ := h2.get (i := i) (x := x) (by simpa using e)
    exact ⟨u, by simpa using a, b⟩
theorem RepVs.append : ∀ {xs ys : List AV} {vs us : List V}, RepVs K H m xs vs → RepVs K H m ys us → RepVs K H m (xs ++ ys) (vs ++ us)
  | [], _, _, _, h, g => by cases h; exact g
  | _ :: xs, _, _, _, h, g => by
    obtain ⟨v, r, rfl, h1, h2⟩ := h
    exact ⟨v, r ++ _, rfl, h1, h2.append g⟩
theorem RepVs.one {x : AV} {v : V} (h : RepV K H m x v) : RepVs K H m [x] [v] := ⟨v, [], rfl, h, rfl⟩
theorem RepVs.take : ∀ {xs : List AV} {vs : List V} (n : Nat), RepVs K H m xs vs → RepVs K H m (xs.take n) (vs.take n)
  | _, _, 0, _ => by simp [RepVs]
  | [], _, n + 1, h => by cases h; simp [RepVs]
  | _ :: xs, _, n + 1, h => by
    obtain ⟨v, r, rfl, h1, h2⟩ := h
    exact ⟨v, _, rfl, h1, h2.take n⟩
theorem RepVs.drop : ∀ {xs : List AV} {vs : List V} (n : Nat), RepVs K H m xs vs → RepVs K H m (xs.drop n) (vs.drop n)
  | _, _, 0, h => h
  | [], _, n + 1, h => by cases h; simp [RepVs]
  | _ :: xs, _, n + 1, h => by
    obtain ⟨v, r, rfl, h1, h2⟩ := h
    exact h2.drop n
theorem RepVs.set {x : AV} {v : V} (hx : RepV K H m x v) : ∀ {xs : List AV} {vs : List V} (i : Nat), RepVs K H m xs vs → RepVs K H m (xs.set i x) (vs.set i v)
  | [], _, _, h => by cases h; simp [RepVs]
  | _ :: xs, _, 0, h => by
    obtain ⟨u, r, rfl, h1, h2⟩ := h
    exact ⟨v, r, rfl, hx, h2⟩
  | _ :: xs, _, i + 1, h => by
    obtain ⟨u, r, rfl, h1, h2⟩ := h
    exact ⟨u, _, rfl, h1, h2.set hx i⟩
theorem RepVs.reverse : ∀ {xs : List AV} {vs : List V}, RepVs K H m xs vs → RepVs K H m xs.reverse vs.reverse
  | [], _, h => by cases h; simp [RepVs]
  | _ :: xs, _, h => by
    obtain ⟨u, r, rfl, h1, h2⟩ := h
    rw [List.reverse_cons, List.reverse_cons]
    exact h2.reverse.append (.one h1)
theorem RepVs.dropLast {xs : List AV} {vs : List V} (h : RepVs K H m xs vs) : RepVs K H m xs.dropLast vs.dropLast := by
  rw [List.dropLast_eq_take, List.dropLast_eq_take, h.length]
  exact h.take _
theorem RepVs.none_of {xs : List AV} {vs : List V} {i : Nat} (h : RepVs K H m xs vs) (e : xs[i]? = none) : vs[i]? = none := by
  have h1 := h.length
  have h2 : xs.length ≤ i := List.getElem?_eq_none_iff.mp e
  exact List.getElem?_eq_none_iff.mpr (by omega)
theorem RepVs.of_map {α : Type} {f : α → AV} {g : α → V} (h : ∀ a, RepV K H m (f a) (g a)) : ∀ l : List α, RepVs K H m (l.map f) (l.map g)
  | [] => rfl
  | a :: l => ⟨_, _, rfl, h a, RepVs.of_map h l⟩
theorem RepVs.eraseIdx : ∀ {xs : List AV} {vs : List V} (i : Nat), RepVs K H m xs vs → RepVs K H m (xs.eraseIdx i) (vs.eraseIdx i)
  | [], _, _, h => by cases h; simp [RepVs]
  | _ :: xs, _, 0, h => by
    obtain ⟨u, r, rfl, h1, h2⟩ := h
    exact h2
  | _ :: xs, _, i + 1, h => by
    obtain ⟨u, r, rfl, h1, h2⟩ := h
    exact ⟨u, _, rfl, h1, h2.eraseIdx i⟩
theorem RepVs.ints : ∀ {ns : List Int} {vs : List V}, RepVs K H m (ns.map AV.int) vs → vs = ns.map V.int
  | [], _, h => h
  | n :: ns, _, h => by
    obtain ⟨u, r, rfl, h1, h2⟩ := h
    have h1 : u = V.int n := h1
    rw [h1, RepVs.ints h2]
    rfl
theorem RepVs.strs : ∀ {ns : List Str} {vs : List V}, RepVs K H m (ns.map AV.str) vs → vs = ns.map V.str
  | [], _, h => h
  | n :: ns, _, h => by
    obtain ⟨u, r, rfl, h1, h2⟩ := h
    have h1 : u = V.str n := h1
    rw [h1, RepVs.strs h2]
    rfl
theorem RepVs.bls : ∀ {ns : List Bool} {vs : List V}, RepVs K H m (ns.map AV.bl) vs → vs = ns.map V.bl
  | [], _, h => h
  | n :: ns, _, h => by
    obtain ⟨u, r, rfl, h1, h2⟩ := h
    have h1 : u = V.bl n := h1
    rw [h1, RepVs.bls h2]
    rfl
end

/-! ### the readings over abstract states, and how they are readings of the hand layer -/
abbrev AEnv := List (Option AV)
abbrev AQ := AV → Sto → Prop
abbrev ATE := AEnv → Sto → AQ → Prop
abbrev ATT := AEnv → Sto → (Bool → Sto → Prop) → Prop
abbrev ATA := AEnv → Sto → (List AV → Sto → Prop) → Prop
structure AEnds where
  nx : AEnv → Sto → Prop
  rt : AQ
  bk : AEnv → Sto → Prop := fun _ _ => False
  ct : AEnv → Sto → Prop := fun _ _ => False
abbrev ATS := AEnds → AEnv → Sto → Prop
abbrev SpA := List AV → Sto → AQ → Prop

structure RepE (K : PySem.W.Frag) (H : Hp) (m : MM) (ρ : AEnv) (σ : L2.St) : Prop where
  len : ρ.length = σ.length
  at_ : ∀ (i : Nat) (x : AV), ρ[i]? = some (some x) → ∃ v, σ[i]? = some (some v) ∧ RepV K H m x v
theorem RepE.stp {K : PySem.W.Frag} {H H' : Hp} {m m' : MM} {ρ : AEnv} {σ : L2.St} (s : Stp H m H' m') (r : RepE K H m ρ σ) : RepE K H' m' ρ σ :=
  ⟨r.len, fun i x e => by
    obtain ⟨v, h1, h2⟩ := r.at_ i x e
    exact ⟨v, h1, RepV.stp s x v h2⟩⟩
theorem RepE.set {K : PySem.W.Frag} {H : Hp} {m : MM} {ρ : AEnv} {σ : L2.St} {x : AV} {v : V} (r : RepE K H m ρ σ) (i : Nat) (h : RepV K H m x v) : RepE K H m (ρ.set i (some x)) (σ.set i (some v)) := by
  refine ⟨by rw [List.length_set, List.length_set]; exact r.len, fun j y e => ?_⟩
  by_cases hj : j = i
  · subst hj
    have hl : j < ρ.length := by
      obtain ⟨z, _⟩ := List.getElem?_eq_some_iff.mp e
      rw [List.length_set] at z; exact z
    rw [List.getElem?_set_self hl] at e
    cases e
    exact ⟨v, by rw [List.getElem?_set_self (by rw [← r.len]; exact hl)], h⟩
  · rw [List.getElem?_set_ne (Ne.symm hj)] at e
    obtain ⟨u, h1, h2⟩ := r.at_ j y e
    exact ⟨u, by rw [List.getElem?_set_ne (Ne.symm hj)]; exact h1, h2⟩

section
variable (K : PySem.W.Frag)
def lE (t : ATE) : TE := fun σ H Q => ∃ m S ρ QA, RepS K H m S ∧ RepE K H m ρ σ ∧ t ρ S QA ∧ ∀ H' m' S' x v, Stp H m H' m' → RepS K H' m' S' → RepV K H' m' x v → QA x S' → Q v H'
def lT (t : ATT) : TT := fun σ H Q => ∃ m S ρ QA, RepS K H m S ∧ RepE K H m ρ σ ∧ t ρ S QA ∧ ∀ H' m' S' b, Stp H m H' m' → RepS K H' m' S' → QA b S' → Q b H'
def lA (t : ATA) : TA := fun σ H Q => ∃ m S ρ QA, RepS K H m S ∧ RepE K H m ρ σ ∧ t ρ S QA ∧ ∀ H' m' S' xs vs, Stp H m H' m' → RepS K H' m' S' → RepVs K H' m' xs vs → QA xs S' → Q vs H'
structure DOk (D : Ends) (DA : AEnds) (H : Hp) (m : MM) : Prop where
  nx : ∀ H' m' S' ρ' σ', Stp H m H' m' → RepS K H' m' S' → RepE K H' m' ρ' σ' → DA.nx ρ' S' → D.nx σ' H'
  rt : ∀ H' m' S' x v, Stp H m H' m' → RepS K H' m' S' → RepV K H' m' x v → DA.rt x S' → D.rt v H'
  bk : ∀ H' m' S' ρ' σ', Stp H m H' m' → RepS K H' m' S' → RepE K H' m' ρ' σ' → DA.bk ρ' S' → D.bk σ' H'
  ct : ∀ H' m' S' ρ' σ', Stp H m H' m' → RepS K H' m' S' → RepE K H' m' ρ' σ' → DA.ct ρ' S' → D.ct σ' H'
def lS (t : ATS) : TS := fun D σ H => ∃ m S ρ DA, RepS K H m S ∧ RepE K H m ρ σ ∧ t DA ρ S ∧ DOk K D DA H m
def lSp (sp : SpA) : Sp := fun vs H Q _ => ∃ m S xs QA, RepS K H m S ∧ RepVs K H m xs vs ∧ sp xs S QA ∧ ∀ H' m' S' x v, Stp H m H' m' → RepS K H' m' S' → RepV K H' m' x v → QA x S' → Q v H'
end
theorem DOk.stp {K : PySem.W.Frag} {D : Ends} {DA : AEnds} {H H1 : Hp} {m m1 : MM} (s : Stp H m H1 m1) (d : DOk K D DA H m) : DOk K D DA H1 m1 :=
  ⟨fun H' m' S' ρ' σ' t => d.nx H' m' S' ρ' σ' (s.trans t), fun H' m' S' x v t => d.rt H' m' S' x v (s.trans t), fun H' m' S' ρ' σ' t => d.bk H' m' S' ρ' σ' (s.trans t), fun H' m' S' ρ' σ' t => d.ct H' m' S' ρ' σ' (s.trans t)⟩
def SE (X : Cx) (e : Expr) (t : ATE) : Prop := PE X e (lE X.K t)
def ST (X : Cx) (e : Expr) (t : ATT) : Prop := PT X e (lT X.K t)
def SA (X : Cx) (es : List Expr) (t : ATA) : Prop := PA X es (lA X.K t)
def SS (X : Cx) (st : Stmt) (t : ATS) : Prop := PS X st (lS X.K t)
def SSs (X : Cx) (st : List Stmt) (t : ATS) : Prop := PSs X st (lS X.K t)
section
variable {X : Cx}
theorem PE.imp {e : Expr} {t t' : TE} (h : PE X e t) (i : ∀ σ H Q, t' σ H Q → t σ H Q) : PE X e t' := ⟨fun pins s σ H Q I q => h.run pins s σ H Q I (i σ H Q q)⟩
theorem PT.imp {e : Expr} {t t' : TT} (h : PT X e t) (i : ∀ σ H Q, t' σ H Q → t σ H Q) : PT X e t' := ⟨fun pins s σ H Q I q => h.run pins s σ H Q I (i σ H Q q)⟩
theorem PW.imp {e : Expr} {t t' : TT} (h : PW X e t) (i : ∀ σ H Q, t' σ H Q → t σ H Q) : PW X e t' := ⟨fun wh pins s σ H Q I q => h.run wh pins s σ H Q I (i σ H Q q)⟩
theorem PA.imp {e : List Expr} {t t' : TA} (h : PA X e t) (i : ∀ σ H Q, t' σ H Q → t σ H Q) : PA X e t' := ⟨fun pos pins s σ H Q I q => h.run pos pins s σ H Q I (i σ H Q q)⟩
theorem PS.imp {e : Stmt} {t t' : TS} (h : PS X e t) (i : ∀ D σ H, t' D σ H → t D σ H) : PS X e t' := ⟨fun pins s σ H D I q => h.run pins s σ H D I (i D σ H q)⟩
theorem PSs.imp {e : List Stmt} {t t' : TS} (h : PSs X e t) (i : ∀ D σ H, t' D σ H → t D σ H) : PSs X e t' := ⟨fun pins s σ H D I q => h.run pins s σ H D I (i D σ H q)⟩
theorem PI.imp {tg e : Expr} {t t' : TI} (h : PI X tg e t) (i : ∀ σ H R, t' σ H R → t σ H R) : PI X tg e t' := ⟨fun pins s σ H Q I q => h.run pins s σ H Q I (i σ H Q q)⟩
theorem PG.imp {e : Expr} {t t' : TG} (h : PG X e t) (i : ∀ v σ H Q, t' v σ H Q → t v σ H Q) : PG X e t' := ⟨fun pins s σ H v u Q I r q => h.run pins s σ H v u Q I r (i v σ H Q q)⟩
end
end HA

/-! Layer A, part 2: expressions. -/
namespace HA
open PySem PySem.Spec PyProof.Rows L2

def Fin (K : PySem.W.Frag) (H : Hp) (m : MM) (QA : AQ) (Q : VK) : Prop := ∀ H' m' S' z w, Stp H m H' m' → RepS K H' m' S' → RepV K H' m' z w → QA z S' → Q w H'
section
variable {K : PySem.W.Frag} {H : Hp} {m : MM} {S : Sto} {QA : AQ} {Q : VK}
theorem Fin.here (f : Fin K H m QA Q) (r : RepS K H m S) {z : AV} {w : V} (h : RepV K H m z w) (q : QA z S) : Q w H := f H m S z w (.refl _ _) r h q
theorem Fin.stp {H1 : Hp} {m1 : MM} (s : Stp H m H1 m1) (f : Fin K H m QA Q) : Fin K H1 m1 QA Q := fun H' m' S' z w t => f H' m' S' z w (s.trans t)
/-- a list made anew: as a cell, or by what it holds -/
def aNew : Bool → List AV → Sto → AQ → Prop
  | true, xs, S, Q => Q (.ref S.length) (S ++ [.lst xs])
  | false, xs, S, Q => Q (.fl xs) S
theorem Fin.new (f : Fin K H m QA Q) (r : RepS K H m S) {mu : Bool} {xs : List AV} {vs : List V} (h : RepVs K H m xs vs) (hz : vs.length ≤ sizeLine) (q : aNew mu xs S QA) {p : Addr} (hp : H p = none) : Q (.ref p) (upd H p (.lst vs)) := by
  cases mu with
  | true =>
    have e : Stp H m (upd H p (.lst vs)) (m.snoc p) := stp_cell hp
    refine f _ (m.snoc p) (S ++ [.lst xs]) (.ref S.length) _ e (r.cell (c := .lst xs) hp ⟨vs, upd_same, hz, RepVs.stp e _ _ h⟩) ⟨p, ?_, rfl⟩ (show QA (.ref S.length) (S ++ [.lst xs]) from q)
    rw [← r.len]; simp
  | false =>
    have e : Stp H m (upd H p (.lst vs)) m := stp_new hp
    exact f _ m S (.fl xs) _ e (r.new hp) ⟨p, vs, rfl, pin_new r hp, hz, RepVs.stp e _ _ h⟩ q
theorem Fin.newT (f : Fin K H m QA Q) (r : RepS K H m S) {xs : List AV} {vs : List V} (h : RepVs K H m xs vs) (hz : vs.length ≤ sizeLine) (q : QA (.tup xs) S) {p : Addr} (hp : H p = none) : Q (.ref p) (upd H p (.tup vs)) := by
  have e : Stp H m (upd H p (.tup vs)) m := stp_new hp
  exact f _ m S (.tup xs) _ e (r.new hp) ⟨p, vs, rfl, pin_new r hp, hz, RepVs.stp e _ _ h⟩ q
end

/-! ### reading lists -/
/-- a list that stands tracked by itself -/
def asM (S : Sto) : AV → Option (List AV)
  | .fl xs => some xs
  | .ref n => match S[n]? with
    | some (.lst xs) => some xs
    | _ => none
  | _ => none
def asL (S : Sto) : AV → Option (List AV)
  | .sl xs => some xs
  | x => asM S x
def asT : AV → Option (List AV)
  | .tup xs => some xs
  | _ => none
section
variable {K : PySem.W.Frag} {H : Hp} {m : MM} {S : Sto}
theorem asM_rep {x : AV} {v : V} {xs : List AV} (r : RepS K H m S) (h : RepV K H m x v) (e : asM S x = some xs) : ∃ a vs, v = .ref a ∧ H a = some (.lst vs) ∧ vs.length ≤ sizeLine ∧ RepVs K H m xs vs := by
  cases x with
  | fl ys =>
    obtain ⟨a, vs, h1, h2, h3, h4⟩ := h
    have e : some ys = some xs := e
    cases e
    exact ⟨a, vs, h1, h2.1, h3, h4⟩
  | ref n =>
    obtain ⟨a, h1, h2⟩ := h
    unfold asM at e
    dsimp only at e
    split at e
    · rename_i ys hn
      cases e
      obtain ⟨vs, g1, g2, g3⟩ := r.at_ n _ a hn h1
      exact ⟨a, vs, h2, g1, g2, g3⟩
    · cases e
  | _ => exact nomatch e
theorem asL_rep {x : AV} {v : V} {xs : List AV} (r : RepS K H m S) (h : RepV K H m x v) (e : asL S x = some xs) : ∃ a vs, v = .ref a ∧ SqL K H a vs ∧ vs.length ≤ sizeLine ∧ RepVs K H m xs vs := by
  cases x with
  | sl ys =>
    obtain ⟨a, vs, h1, h2, h3, h4⟩ := h
    have e : some ys = some xs := e
    cases e
    exact ⟨a, vs, h1, h2.seq, h3, h4⟩
  | fl ys =>
    obtain ⟨a, vs, h1, h2, h3, h4⟩ := asM_rep (S := S) r h e
    exact ⟨a, vs, h1, .inl (.inl h2), h3, h4⟩
  | ref n =>
    obtain ⟨a, vs, h1, h2, h3, h4⟩ := asM_rep (S := S) r h e
    exact ⟨a, vs, h1, .inl (.inl h2), h3, h4⟩
  | _ => exact nomatch e
theorem asT_rep {x : AV} {v : V} {xs : List AV} (h : RepV K H m x v) (e : asT x = some xs) : ∃ a vs, v = .ref a ∧ SqT K H a vs ∧ vs.length ≤ sizeLine ∧ RepVs K H m xs vs := by
  cases x with
  | tup ys =>
    obtain ⟨a, vs, h1, h2, h3, h4⟩ := h
    have e : some ys = some xs := e
    cases e
    exact ⟨a, vs, h1, h2.seq, h3, h4⟩
  | _ => exact nomatch e
end

/-! ### names, constants -/
def aVar (i : Nat) : ATE := fun ρ S Q => match ρ[i]? with
  | some (some x) => Q x S
  | _ => False
def aC (x : AV) : ATE := fun _ S Q => Q x S
section
variable {X : Cx} {pos : Pos}
theorem se_var {i : Nat} {x : Str} (hN : X.N[i]? = some x) (hv : Vis X.env.scope x) (hd : (x == ("__debug__" : Str)) = false := by decide) (hcd : (x == ("__classdict__" : Str)) = false := by decide) : SE X (.Name x pos) (aVar i) := by
  refine PE.imp (pe_var hN hv hd hcd) fun σ H Q h => ?_
  obtain ⟨m, S, ρ, QA, rS, rE, h, fin⟩ := h
  unfold aVar at h
  split at h
  · rename_i y e
    obtain ⟨v, h1, h2⟩ := rE.at_ i y e
    exact ⟨v, h1, Fin.here fin rS h2 h⟩
  · exact h.elim
theorem se_const {e : Expr} {v : V} {x : AV} (h : PE X e (tC v)) (r : ∀ K H m, RepV K H m x v) : SE X e (aC x) := by
  refine PE.imp h fun σ H Q h => ?_
  obtain ⟨m, S, ρ, QA, rS, rE, h, fin⟩ := h
  exact Fin.here fin rS (r _ _ _) h
theorem se_int {i j} : SE X (.Constant (.int i) j pos) (aC (.int i)) := se_const pe_int fun _ _ _ => rfl
theorem se_bl {b j} : SE X (.Constant (.bool b) j pos) (aC (.bl b)) := se_const pe_bl fun _ _ _ => rfl
theorem se_non {j} : SE X (.Constant .none j pos) (aC .non) := se_const pe_non fun _ _ _ => rfl
theorem se_str {x j} : SE X (.Constant (.str x) j pos) (aC (.str x)) := se_const pe_str fun _ _ _ => rfl
/-- a built-in class, or a constant of the module, as a value -/
theorem se_bltn {x : Str} {v : V} {u : Value} (hg : Gl X x) (hm : X.mg x = none) (hv : bootBuiltins x = some u) (r : RelV v u) (hn : x ≠ "__name__" := by decide) (hd : (x == ("__debug__" : Str)) = false := by decide) : SE X (.Name x pos) (aC (.raw v)) :=
  se_const (pe_bltn hg hm hv r hn hd) fun _ _ _ => rfl
theorem se_glob {x : Str} {v : V} {u : Value} {a : AV} (hg : Gl X x) (hm : X.mg x = some u) (r : RelV v u) (ra : ∀ K H m, RepV K H m a v) (hd : (x == ("__debug__" : Str)) = false := by decide) : SE X (.Name x pos) (aC a) :=
  se_const (pe_glob hg hm r hd) ra
end

/-! ### operators by values -/
abbrev R2A := AV → AV → Sto → AQ → Prop
abbrev R1A := AV → Sto → AQ → Prop
def lR2 (K : PySem.W.Frag) (r : R2A) : R2 := fun x y H Q => ∃ m S ax ay QA, RepS K H m S ∧ RepV K H m ax x ∧ RepV K H m ay y ∧ r ax ay S QA ∧ Fin K H m QA Q
def lR1 (K : PySem.W.Frag) (r : R1A) : V → Hp → VK → Prop := fun x H Q => ∃ m S ax QA, RepS K H m S ∧ RepV K H m ax x ∧ r ax S QA ∧ Fin K H m QA Q
def lRs (K : PySem.W.Frag) (r : List AV → Sto → AQ → Prop) : List V → Hp → VK → Prop := fun xs H Q => ∃ m S axs QA, RepS K H m S ∧ RepVs K H m axs xs ∧ r axs S QA ∧ Fin K H m QA Q
def aOp (r : R2A) (ta tb : ATE) : ATE := fun ρ S Q => ta ρ S fun x S1 => tb ρ S1 fun y S2 => r x y S2 Q
def aUn (r : R1A) (ta : ATE) : ATE := fun ρ S Q => ta ρ S fun x S1 => r x S1 Q
theorem bin_imp {K : PySem.W.Frag} {r : R2A} {ta tb : ATE} {σ : L2.St} {H : Hp} {Q : VK} (h : lE K (aOp r ta tb) σ H Q) : tOp (lR2 K r) (lE K ta) (lE K tb) σ H Q := by
  obtain ⟨m, S, ρ, QA, rS, rE, h, fin⟩ := h
  refine ⟨m, S, ρ, _, rS, rE, h, fun H1 m1 S1 x v s1 rS1 rv1 q1 => ?_⟩
  refine ⟨m1, S1, ρ, _, rS1, rE.stp s1, q1, fun H2 m2 S2 y u s2 rS2 rv2 q2 => ?_⟩
  exact ⟨m2, S2, x, y, QA, rS2, rv1.stp s2, rv2, q2, Fin.stp (s1.trans s2) fin⟩
theorem un_imp {K : PySem.W.Frag} {r : R1A} {ta : ATE} {σ : L2.St} {H : Hp} {Q : VK} (h : lE K (aUn r ta) σ H Q) : tUn (lR1 K r) (lE K ta) σ H Q := by
  obtain ⟨m, S, ρ, QA, rS, rE, h, fin⟩ := h
  refine ⟨m, S, ρ, _, rS, rE, h, fun H1 m1 S1 x v s1 rS1 rv1 q1 => ?_⟩
  exact ⟨m1, S1, x, QA, rS1, rv1, q1, Fin.stp s1 fin⟩
section
variable {X : Cx} {a b : Expr} {ta tb : ATE} {pos : Pos}
theorem se_op {op : Operator} {r : R2A} (ho : OpR X (binaryOp op) (lR2 X.K r)) (ha : SE X a ta) (hb : SE X b tb) : SE X (.BinOp a op b pos) (aOp r ta tb) :=
  PE.imp (pe_op ho ha hb) fun _ _ _ h => bin_imp h
theorem se_un {op : UnaryOp} {r : R1A} (ho : UnR X (unaryOp op) (lR1 X.K r)) (ha : SE X a ta) : SE X (.UnaryOp op a pos) (aUn r ta) :=
  PE.imp (pe_un ho ha) fun _ _ _ h => un_imp h
theorem se_cmp {op : CmpOp} {r : R2A} (ho : OpR X (compareOp op) (lR2 X.K r)) (ha : SE X a ta) (hb : SE X b tb) (hm : behindInMarks op b = false := by first | exact nomark _ | rfl) : SE X (.Compare a [op] [b] pos) (aOp r ta tb) :=
  PE.imp (pe_cmpR ho ha hb hm) fun _ _ _ h => bin_imp h
theorem se_ix {r : R2A} (ho : IxR X (lR2 X.K r)) (ha : SE X a ta) (hb : SE X b tb) (hs : PlainIx b := by exact fun _ _ => rfl) : SE X (.Subscript a b pos) (aOp r ta tb) :=
  PE.imp (pe_ix ho ha hb hs) fun _ _ _ h => bin_imp h
end

/-! ### + -/
def rAddA : R2A
  | .int i, .int j, S, Q => Q (.int (i + j)) S
  | .str i, .str j, S, Q => i.length + j.length ≤ sizeLine ∧ Q (.str (i ++ j)) S
  | .tup xs, .tup ys, S, Q => xs.length + ys.length ≤ sizeLine ∧ Q (.tup (xs ++ ys)) S
  | x, y, S, Q => match asM S x, asM S y with
    | some xs, some ys => xs.length + ys.length ≤ sizeLine ∧ aNew false (xs ++ ys) S Q
    | _, _ => False
theorem rAddA_lists {x y : AV} {S : Sto} {Q : AQ} (h : rAddA x y S Q) : (∃ i j, x = .int i ∧ y = .int j ∧ Q (.int (i + j)) S) ∨ (∃ i j, x = .str i ∧ y = .str j ∧ i.length + j.length ≤ sizeLine ∧ Q (.str (i ++ j)) S) ∨
    (∃ xs ys, x = .tup xs ∧ y = .tup ys ∧ xs.length + ys.length ≤ sizeLine ∧ Q (.tup (xs ++ ys)) S) ∨ ∃ xs ys, asM S x = some xs ∧ asM S y = some ys ∧ xs.length + ys.length ≤ sizeLine ∧ aNew false (xs ++ ys) S Q := by
  unfold rAddA at h
  split at h
  · exact .inl ⟨_, _, rfl, rfl, h⟩
  · exact .inr (.inl ⟨_, _, rfl, rfl, h⟩)
  · exact .inr (.inr (.inl ⟨_, _, rfl, rfl, h⟩))
  · split at h
    · rename_i xs ys e1 e2
      exact .inr (.inr (.inr ⟨xs, ys, e1, e2, h⟩))
    · exact h.elim
theorem op_addA {X : Cx} : OpR X (binaryOp .Add) (lR2 X.K rAddA) := by
  intro pins s σ H x y v u Q I rx ry h
  obtain ⟨m, S, ax, ay, QA, rS, hx, hy, h, fin⟩ := h
  rcases rAddA_lists h with ⟨i, j, rfl, rfl, q⟩ | ⟨i, j, rfl, rfl, hz, q⟩ | ⟨xs, ys, rfl, rfl, hz, q⟩ | ⟨xs, ys, e1, e2, hz, q⟩
  · exact op_add pins s σ H x y v u Q I rx ry ⟨i, j, hx, hy, fin.here (z := .int (i + j)) rS rfl q⟩
  · exact op_add_str pins s σ H x y v u Q I rx ry ⟨i, j, hx, hy, hz, fin.here (z := .str (i ++ j)) rS rfl q⟩
  · obtain ⟨a, vs, e1, h1, z1, r1⟩ := hx
    obtain ⟨b, us, e2, h2, z2, r2⟩ := hy
    have l1 := r1.length
    have l2 := r2.length
    refine op_catA pins s σ H x y v u Q I rx ry ⟨a, b, vs, us, e1, e2, h1.seq, h2.seq, by omega, fun z => ?_, fun _ z => ?_, fun _ _ p hp => ?_⟩
    · subst z
      have e : xs = [] := List.eq_nil_of_length_eq_zero (by simpa using l1)
      subst e
      exact fin.here (z := .tup ([] ++ ys)) rS ⟨b, us, rfl, h2, z2, r2⟩ q
    · subst z
      have e : ys = [] := List.eq_nil_of_length_eq_zero (by simpa using l2)
      subst e
      refine fin.here (z := .tup (xs ++ [])) rS ⟨a, vs, rfl, h1, z1, ?_⟩ q
      rw [List.append_nil]
      exact r1
    · exact fin.newT rS (r1.append r2) (by rw [List.length_append]; omega) q hp
  · obtain ⟨a, vs, e1, h1, z1, r1⟩ := asM_rep rS hx e1
    obtain ⟨b, us, e2, h2, z2, r2⟩ := asM_rep rS hy e2
    have l1 := r1.length
    have l2 := r2.length
    exact op_cat pins s σ H x y v u Q I rx ry ⟨a, b, vs, us, e1, e2, h1, h2, by omega, fun p hp => fin.new rS (r1.append r2) (by rw [List.length_append]; omega) q hp⟩

/-! ### whole numbers -/
def rI (C : Int → Int → Prop) (g : Int → Int → AV) : R2A
  | .int i, .int j, S, Q => C i j ∧ Q (g i j) S
  | _, _, _, _ => False
theorem rI_of {C : Int → Int → Prop} {g : Int → Int → AV} {x y : AV} {S : Sto} {Q : AQ} (h : rI C g x y S Q) : ∃ i j, x = .int i ∧ y = .int j ∧ C i j ∧ Q (g i j) S := by
  unfold rI at h
  split at h
  · exact ⟨_, _, rfl, rfl, h⟩
  · exact h.elim
theorem opI_A {X : Cx} {f : Value → Value → Sem Value} {C C' : Int → Int → Prop} {g : Int → Int → AV} {g' : Int → Int → V} (h : OpR X f (L2.rI C' g')) (hc : ∀ i j, C i j → C' i j) (hg : ∀ K H m i j, C i j → RepV K H m (g i j) (g' i j)) : OpR X f (lR2 X.K (rI C g)) := by
  intro pins s σ H x y v u Q I rx ry q
  obtain ⟨m, S, ax, ay, QA, rS, hx, hy, q, fin⟩ := q
  obtain ⟨i, j, rfl, rfl, c, q⟩ := rI_of q
  exact h pins s σ H x y v u Q I rx ry ⟨i, j, hx, hy, hc i j c, fin.here rS (hg _ _ _ i j c) q⟩
theorem opI0_A {X : Cx} {f : Value → Value → Sem Value} {g : Int → Int → AV} {g' : Int → Int → V} (h : OpR X f (L2.rI0 g')) (hg : ∀ K H m i j, RepV K H m (g i j) (g' i j)) : OpR X f (lR2 X.K (rI (fun _ _ => True) g)) := by
  intro pins s σ H x y v u Q I rx ry q
  obtain ⟨m, S, ax, ay, QA, rS, hx, hy, q, fin⟩ := q
  obtain ⟨i, j, rfl, rfl, c, q⟩ := rI_of q
  exact h pins s σ H x y v u Q I rx ry ⟨i, j, hx, hy, fin.here rS (hg _ _ _ i j) q⟩
abbrev rSubA : R2A := rI (fun _ _ => True) fun i j => .int (i - j)
abbrev rMulI : R2A := rI CMul fun i j => .int (i * j)
abbrev rFdivA : R2A := rI CDivN fun i j => .int (i.fdiv j)
abbrev rModA : R2A := rI (fun _ j => j ≠ 0) fun i j => .int (i.fmod j)
abbrev rPowA : R2A := rI CPow fun i j => .int (i ^ j.toNat)
abbrev rShrA : R2A := rI (fun _ j => 0 ≤ j) fun i j => .int (i / 2 ^ j.toNat)
abbrev rAndA : R2A := rI (fun _ _ => True) fun i j => .int (Builtin.bitAnd i j)
abbrev rLtA : R2A := rI (fun _ _ => True) fun i j => .bl (decide (i < j))
abbrev rLeA : R2A := rI (fun _ _ => True) fun i j => .bl (decide (i ≤ j))
abbrev rGtA : R2A := rI (fun _ _ => True) fun i j => .bl (decide (j < i))
abbrev rGeA : R2A := rI (fun _ _ => True) fun i j => .bl (decide (j ≤ i))
section
variable {X : Cx}
theorem op_subA : OpR X (binaryOp .Sub) (lR2 X.K rSubA) := opI0_A op_sub fun _ _ _ _ _ => rfl
theorem op_mulI : OpR X (binaryOp .Mult) (lR2 X.K rMulI) := opI_A op_mul (fun _ _ h => h) fun _ _ _ _ _ _ => rfl
theorem op_fdivA : OpR X (binaryOp .FloorDiv) (lR2 X.K rFdivA) := opI_A op_fdivN (fun _ _ h => h) fun _ _ _ _ _ _ => rfl
theorem op_modA : OpR X (binaryOp .Mod) (lR2 X.K rModA) := opI_A op_modN (fun _ _ h => h) fun _ _ _ _ _ _ => rfl
theorem op_powA : OpR X (binaryOp .Pow) (lR2 X.K rPowA) := opI_A op_pow (fun _ _ h => h) fun _ _ _ _ _ _ => rfl
theorem op_shrA : OpR X (binaryOp .RShift) (lR2 X.K rShrA) := opI_A op_shr (fun _ _ h => h) fun _ _ _ _ _ _ => rfl
theorem op_andA : OpR X (binaryOp .BitAnd) (lR2 X.K rAndA) := opI0_A op_and fun _ _ _ _ _ => rfl
theorem op_ltA : OpR X (compareOp .Lt) (lR2 X.K rLtA) := opI0_A op_lt fun _ _ _ _ _ => rfl
theorem op_leA : OpR X (compareOp .LtE) (lR2 X.K rLeA) := opI0_A op_le fun _ _ _ _ _ => rfl
theorem op_gtA : OpR X (compareOp .Gt) (lR2 X.K rGtA) := opI0_A op_gt fun _ _ _ _ _ => rfl
theorem op_geA : OpR X (compareOp .GtE) (lR2 X.K rGeA) := opI0_A op_ge fun _ _ _ _ _ => rfl
end
def rNegA : R1A
  | .int i, S, Q => Q (.int (-i)) S
  | _, _, _ => False
theorem un_negA {X : Cx} : UnR X (unaryOp .USub) (lR1 X.K rNegA) := by
  intro pins s σ H x v Q I rx h
  obtain ⟨m, S, ax, QA, rS, hx, q, fin⟩ := h
  unfold rNegA at q
  split at q
  · rename_i i
    exact un_neg pins s σ H x v Q I rx ⟨i, hx, fin.here (z := .int (-i)) rS rfl q⟩
  · exact q.elim
/-- [..] * n, n * m -/
def rMulA : R2A
  | .int i, .int j, S, Q => CMul i j ∧ Q (.int (i * j)) S
  | x, .int k, S, Q => match asM S x with
    | some xs => (-(2 ^ 63) ≤ k ∧ k < 2 ^ 63 ∧ xs.length * k.toNat ≤ sizeLine) ∧ aNew false (List.replicate k.toNat xs).flatten S Q
    | none => False
  | _, _, _, _ => False
theorem RepVs.rep {K : PySem.W.Frag} {H : Hp} {m : MM} {xs : List AV} {vs : List V} (h : RepVs K H m xs vs) : ∀ k : Nat, RepVs K H m (List.replicate k xs).flatten (List.replicate k vs).flatten
  | 0 => rfl
  | k + 1 => by
    rw [List.replicate_succ, List.replicate_succ, List.flatten_cons, List.flatten_cons]
    exact h.append (h.rep k)
theorem rMulA_of {x y : AV} {S : Sto} {Q : AQ} (h : rMulA x y S Q) : (∃ i j, x = .int i ∧ y = .int j ∧ CMul i j ∧ Q (.int (i * j)) S) ∨
    ∃ k xs, y = .int k ∧ asM S x = some xs ∧ (-(2 ^ 63) ≤ k ∧ k < 2 ^ 63 ∧ xs.length * k.toNat ≤ sizeLine) ∧ aNew false (List.replicate k.toNat xs).flatten S Q := by
  unfold rMulA at h
  split at h
  · exact .inl ⟨_, _, rfl, rfl, h⟩
  · split at h
    · exact .inr ⟨_, _, rfl, by assumption, h⟩
    · exact h.elim
  · exact h.elim
theorem op_mulA {X : Cx} : OpR X (binaryOp .Mult) (lR2 X.K rMulA) := by
  intro pins s σ H x y v u Q I rx ry h
  obtain ⟨m, S, ax, ay, QA, rS, hx, hy, h, fin⟩ := h
  rcases rMulA_of h with ⟨i, j, rfl, rfl, h⟩ | ⟨k, xs, rfl, e1, h⟩
  · exact op_mul pins s σ H x y v u Q I rx ry ⟨i, j, hx, hy, h.1, fin.here (z := .int (i * j)) rS rfl h.2⟩
  · obtain ⟨a, vs, e2, h1, z1, r1⟩ := asM_rep rS hx e1
    have l1 := r1.length
    refine op_rep pins s σ H x y v u Q I rx ry ⟨a, k, vs, e2, hy, h1, h.1.1, h.1.2.1, by rw [← l1]; exact h.1.2.2, fun p hp => fin.new rS (r1.rep _) ?_ h.2 hp⟩
    rw [List.length_flatten, List.map_replicate, List.sum_replicate_nat, ← l1, Nat.mul_comm]
    exact h.1.2.2

/-! ### == and != -/
mutual
def okD : AV → Bool
  | .non => true | .bl _ => true | .int _ => true | .str x => x.cps.all (· < 0x110000)
  | .tup xs => okDs xs | .fl xs => okDs xs | .sl xs => okDs xs
  | _ => false
def okDs : List AV → Bool
  | [] => true
  | x :: xs => okD x && okDs xs
end
mutual
def dat : AV → PyData
  | .non => .none | .bl b => .bool b | .int i => .int i | .str x => .str x
  | .tup xs => .tuple (dats xs) | .fl xs => .list (dats xs) | .sl xs => .list (dats xs)
  | _ => .none
def dats : List AV → List PyData
  | [] => []
  | x :: xs => dat x :: dats xs
end
def unref (S : Sto) : AV → AV
  | .ref n => match S[n]? with
    | some (.lst xs) => .fl xs
    | _ => .ref n
  | x => x
def eqD (x y : AV) : Bool := PyData.eqv (dat x) (dat y)
def maxDep : Nat := 1000
def rEqA (neg : Bool) : R2A
  | .str a, .str b, S, Q => Q (.bl (neg ^^ (a == b))) S
  | .int a, .int b, S, Q => Q (.bl (neg ^^ (a == b))) S
  | x, y, S, Q => (okD (unref S x) = true ∧ okD (unref S y) = true ∧ min (dat (unref S x)).depth (dat (unref S y)).depth ≤ maxDep) ∧ Q (.bl (neg ^^ eqD (unref S x) (unref S y))) S
mutual
theorem okD_lay : ∀ x, okD x = true → (dat x).canLay0 = true
  | .non, _ => rfl
  | .bl _, _ => rfl
  | .int _, _ => rfl
  | .str x, h => h
  | .tup xs, h => okDs_lay xs h
  | .fl xs, h => okDs_lay xs h
  | .sl xs, h => okDs_lay xs h
  | .ref _, h => nomatch h
  | .fd _ _, h => nomatch h
  | .raw _, h => nomatch h
theorem okDs_lay : ∀ xs, okDs xs = true → PyData.canLayAll0 (dats xs) = true
  | [], _ => rfl
  | x :: xs, h => by
    have h : (okD x && okDs xs) = true := h
    rw [Bool.and_eq_true] at h
    show ((dat x).canLay0 && PyData.canLayAll0 (dats xs)) = true
    rw [okD_lay x h.1, okDs_lay xs h.2]
    rfl
end
mutual
theorem dp_of {K : PySem.W.Frag} {H : Hp} {m : MM} : ∀ (x : AV) (v : V), okD x = true → RepV K H m x v → Dp K H v (dat x)
  | .non, _, _, h => by cases h; exact .non
  | .bl b, _, _, h => by cases h; exact .bl b
  | .int i, _, _, h => by cases h; exact .int i
  | .str x, _, _, h => by cases h; exact .str x
  | .tup xs, _, k, h => by
    obtain ⟨a, vs, rfl, h1, _, h2⟩ := h
    exact .tup h1.seq (dps_of xs vs k h2)
  | .fl xs, _, k, h => by
    obtain ⟨a, vs, rfl, h1, _, h2⟩ := h
    exact .lst (.inl (.inl h1.1)) (dps_of xs vs k h2)
  | .sl xs, _, k, h => by
    obtain ⟨a, vs, rfl, h1, _, h2⟩ := h
    exact .lst h1.seq (dps_of xs vs k h2)
  | .ref _, _, h, _ => nomatch h
  | .fd _ _, _, h, _ => nomatch h
  | .raw _, _, h, _ => nomatch h
theorem dps_of {K : PySem.W.Frag} {H : Hp} {m : MM} : ∀ (xs : List AV) (vs : List V), okDs xs = true → RepVs K H m xs vs → DpAll K H vs (dats xs)
  | [], _, _, h => by cases h; exact .nil
  | x :: xs, _, k, h => by
    obtain ⟨v, r, rfl, h1, h2⟩ := h
    have k : (okD x && okDs xs) = true := k
    rw [Bool.and_eq_true] at k
    exact .cons (dp_of x v k.1 h1) (dps_of xs r k.2 h2)
end
theorem dp_unref {K : PySem.W.Frag} {H : Hp} {m : MM} {S : Sto} {x : AV} {v : V} (r : RepS K H m S) (h : RepV K H m x v) (k : okD (unref S x) = true) : Dp K H v (dat (unref S x)) := by
  cases x with
  | ref n =>
    obtain ⟨a, h1, h2⟩ := h
    unfold unref at k ⊢
    dsimp only at k ⊢
    split at k
    · rename_i xs hn
      obtain ⟨vs, g1, g2, g3⟩ := r.at_ n _ a hn h1
      subst h2
      exact .lst (.inl (.inl g1)) (dps_of xs vs k g3)
    · exact nomatch k
  | _ => exact dp_of _ v k h
theorem rEqA_of {neg : Bool} {x y : AV} {S : Sto} {Q : AQ} (h : rEqA neg x y S Q) : (∃ a b, x = .str a ∧ y = .str b ∧ Q (.bl (neg ^^ (a == b))) S) ∨ (∃ a b, x = .int a ∧ y = .int b ∧ Q (.bl (neg ^^ (a == b))) S) ∨
    ((okD (unref S x) = true ∧ okD (unref S y) = true ∧ min (dat (unref S x)).depth (dat (unref S y)).depth ≤ maxDep) ∧ Q (.bl (neg ^^ eqD (unref S x) (unref S y))) S) := by
  unfold rEqA at h
  split at h
  · exact .inl ⟨_, _, rfl, rfl, h⟩
  · exact .inr (.inl ⟨_, _, rfl, rfl, h⟩)
  · exact .inr (.inr h)
theorem op_eqA {X : Cx} (hu : X.A.units + maxDep < cLine) : OpR X (compareOp .Eq) (lR2 X.K (rEqA false)) := by
  intro pins s σ H x y v u Q I rx ry h
  obtain ⟨m, S, ax, ay, QA, rS, hx, hy, h, fin⟩ := h
  rcases rEqA_of h with ⟨a, b, rfl, rfl, q⟩ | ⟨a, b, rfl, rfl, q⟩ | ⟨⟨k1, k2, k3⟩, q⟩
  · have hx : x = .str a := hx
    have hy : y = .str b := hy
    subst hx; subst hy
    refine op_eq pins s σ H _ _ v u Q I rx ry ⟨rfl, ?_⟩
    rw [dec_str]
    exact fin.here (z := .bl (a == b)) rS rfl (by simpa using q)
  · have hx : x = .int a := hx
    have hy : y = .int b := hy
    subst hx; subst hy
    refine op_eq pins s σ H _ _ v u Q I rx ry ⟨rfl, ?_⟩
    rw [dec_int]
    exact fin.here (z := .bl (a == b)) rS rfl (by simpa using q)
  · obtain ⟨as, r1⟩ := Dp.reads I _ x v (dp_unref rS hx k1) rx
    obtain ⟨bs, r2⟩ := Dp.reads I _ y u (dp_unref rS hy k2) ry
    refine SeqAt.compareEq_reads r1 r2 (okD_lay _ k1) (okD_lay _ k2) (by omega) ⟨.bl _, H, I, rfl, ?_⟩
    exact fin.here (z := .bl (eqD (unref S ax) (unref S ay))) rS rfl (by simpa using q)
theorem op_neA {X : Cx} (hu : X.A.units + maxDep < cLine) : OpR X (compareOp .NotEq) (lR2 X.K (rEqA true)) := by
  intro pins s σ H x y v u Q I rx ry h
  obtain ⟨m, S, ax, ay, QA, rS, hx, hy, h, fin⟩ := h
  rcases rEqA_of h with ⟨a, b, rfl, rfl, q⟩ | ⟨a, b, rfl, rfl, q⟩ | ⟨⟨k1, k2, k3⟩, q⟩
  · have hx : x = .str a := hx
    have hy : y = .str b := hy
    subst hx; subst hy
    refine op_ne pins s σ H _ _ v u Q I rx ry ⟨rfl, ?_⟩
    rw [dec_str]
    exact fin.here (z := .bl (!(a == b))) rS rfl (by simpa using q)
  · have hx : x = .int a := hx
    have hy : y = .int b := hy
    subst hx; subst hy
    refine op_ne pins s σ H _ _ v u Q I rx ry ⟨rfl, ?_⟩
    rw [dec_int]
    exact fin.here (z := .bl (!(a == b))) rS rfl (by simpa using q)
  · obtain ⟨as, r1⟩ := Dp.reads I _ x v (dp_unref rS hx k1) rx
    obtain ⟨bs, r2⟩ := Dp.reads I _ y u (dp_unref rS hy k2) ry
    refine SeqAt.compareNe_reads r1 r2 (okD_lay _ k1) (okD_lay _ k2) (by omega) ⟨.bl _, H, I, rfl, ?_⟩
    exact fin.here (z := .bl (!eqD (unref S ax) (unref S ay))) rS rfl (by simpa using q)
/-- is None, is not None; is True -/
def isNonB : AV → Bool
  | .non => true
  | _ => false
def notRaw : AV → Bool
  | .raw _ => false
  | _ => true
def rIsA (neg : Bool) : R2A
  | x, .non, S, Q => notRaw x = true ∧ Q (.bl (neg ^^ isNonB x)) S
  | .bl a, .bl b, S, Q => Q (.bl (neg ^^ (a == b))) S
  | _, _, _, _ => False
theorem isNon_rep {K : PySem.W.Frag} {H : Hp} {m : MM} {x : AV} {v : V} (h : RepV K H m x v) (hr : notRaw x = true) : decide (v = .non) = isNonB x := by
  cases x with
  | non => cases h; rfl
  | bl b => cases h; rfl
  | int b => cases h; rfl
  | str b => cases h; rfl
  | ref n => obtain ⟨a, _, rfl⟩ := h; rfl
  | tup n => obtain ⟨a, vs, rfl, _⟩ := h; rfl
  | fl n => obtain ⟨a, vs, rfl, _⟩ := h; rfl
  | sl n => obtain ⟨a, vs, rfl, _⟩ := h; rfl
  | fd n => obtain ⟨a, vs, rfl, _⟩ := h; rfl
  | raw v => exact nomatch hr
theorem rIsA_of {neg : Bool} {x y : AV} {S : Sto} {Q : AQ} (h : rIsA neg x y S Q) : (y = .non ∧ notRaw x = true ∧ Q (.bl (neg ^^ isNonB x)) S) ∨ ∃ a b, x = .bl a ∧ y = .bl b ∧ Q (.bl (neg ^^ (a == b))) S := by
  unfold rIsA at h
  split at h
  · exact .inl ⟨rfl, h⟩
  · exact .inr ⟨_, _, rfl, rfl, h⟩
  · exact h.elim
theorem op_isA {X : Cx} : OpR X (compareOp .Is) (lR2 X.K (rIsA false)) := by
  intro pins s σ H x y v u Q I rx ry h
  obtain ⟨m, S, ax, ay, QA, rS, hx, hy, h, fin⟩ := h
  rcases rIsA_of h with ⟨rfl, h1, h2⟩ | ⟨a, b, rfl, rfl, h2⟩
  · refine op_isN pins s σ H x y v u Q I rx ry ⟨hy, ?_⟩
    rw [isNon_rep hx h1]
    exact fin.here (z := .bl (isNonB ax)) rS rfl (by simpa using h2)
  · refine op_is_bl pins s σ H x y v u Q I rx ry ⟨a, b, hx, hy, ?_⟩
    have e : decide (a = b) = (a == b) := by cases a <;> cases b <;> rfl
    rw [e]
    exact fin.here (z := .bl (a == b)) rS rfl (by simpa using h2)
theorem op_isnotA {X : Cx} : OpR X (compareOp .IsNot) (lR2 X.K (rIsA true)) := by
  intro pins s σ H x y v u Q I rx ry h
  obtain ⟨m, S, ax, ay, QA, rS, hx, hy, h, fin⟩ := h
  rcases rIsA_of h with ⟨rfl, h1, h2⟩ | ⟨a, b, rfl, rfl, h2⟩
  · refine op_notN pins s σ H x y v u Q I rx ry ⟨hy, ?_⟩
    rw [isNon_rep hx h1]
    exact fin.here (z := .bl (!isNonB ax)) rS rfl (by simpa using h2)
  · refine op_isnot_bl pins s σ H x y v u Q I rx ry ⟨a, b, hx, hy, ?_⟩
    have e : decide (a = b) = (a == b) := by cases a <;> cases b <;> rfl
    rw [e]
    exact fin.here (z := .bl (!(a == b))) rS rfl (by simpa using h2)
end HA

/-! Layer A, part 3: tests, subscripts, slices, displays, calls, built-ins. -/
namespace HA
open PySem PySem.Spec PyProof.Rows L2

/-! ### tests -/
def aB (t : ATE) : ATT := fun ρ S Q => t ρ S fun x S1 => match x with
  | .bl b => Q b S1
  | _ => False
def aAndT (t u : ATT) : ATT := fun ρ S Q => t ρ S fun b S1 => match b with
  | true => u ρ S1 Q
  | false => Q false S1
def aOrT (t u : ATT) : ATT := fun ρ S Q => t ρ S fun b S1 => match b with
  | true => Q true S1
  | false => u ρ S1 Q
def aNotT (t : ATT) : ATT := fun ρ S Q => t ρ S fun b S1 => Q (!b) S1
def aAndV (ta tb : ATE) : ATE := fun ρ S Q => ta ρ S fun x S1 => match x with
  | .bl true => tb ρ S1 Q
  | .bl false => Q (.bl false) S1
  | _ => False
def aOrV (ta tb : ATE) : ATE := fun ρ S Q => ta ρ S fun x S1 => match x with
  | .bl true => Q (.bl true) S1
  | .bl false => tb ρ S1 Q
  | _ => False
def aNotV (ta : ATE) : ATE := fun ρ S Q => ta ρ S fun x S1 => match x with
  | .bl b => Q (.bl (!b)) S1
  | _ => False
def aIfE (t : ATT) (ta tb : ATE) : ATE := fun ρ S Q => t ρ S fun b S1 => match b with
  | true => ta ρ S1 Q
  | false => tb ρ S1 Q
/-- truth -/
def truA (S : Sto) (x : AV) : Option Bool := match asL S x with
  | some xs => some (!xs.isEmpty)
  | none => match x with
    | .tup xs => some (!xs.isEmpty)
    | .non => some false
    | .bl b => some b
    | .int i => some (i != 0)
    | _ => none
def aTru (t : ATE) : ATT := fun ρ S Q => t ρ S fun x S1 => match truA S1 x with
  | some b => Q b S1
  | none => False
theorem Bl_of {x : AV} {Q : Bool → Prop} (h : match x with | .bl b => Q b | _ => False) : ∃ b, x = .bl b ∧ Q b := by
  split at h
  · exact ⟨_, rfl, h⟩
  · exact h.elim
section
variable {X : Cx} {a b c : Expr} {ta tb tc : ATE} {tA tB : ATT} {pos : Pos} {rest : List Expr}
theorem b_imp {K : PySem.W.Frag} {t : ATE} {σ : L2.St} {H : Hp} {Q : Bool → Hp → Prop} (h : lT K (aB t) σ H Q) : lE K t σ H fun x H' => ∃ k, x = V.bl k ∧ Q k H' := by
  obtain ⟨m, S, ρ, QA, rS, rE, h, fin⟩ := h
  refine ⟨m, S, ρ, _, rS, rE, h, fun H1 m1 S1 x v s1 rS1 rv1 q1 => ?_⟩
  obtain ⟨k, rfl, q⟩ := Bl_of q1
  exact ⟨k, rv1, fin H1 m1 S1 k s1 rS1 q⟩
theorem st_cmp {op : CmpOp} {r : R2A} (ho : OpR X (compareOp op) (lR2 X.K r)) (ha : SE X a ta) (hb : SE X b tb) (hm : behindInMarks op b = false := by first | exact nomark _ | rfl) : ST X (.Compare a [op] [b] pos) (aB (aOp r ta tb)) :=
  PT.imp (pt_cmpR ho ha hb hm) fun σ H Q h => bin_imp (r := r) (by
    obtain ⟨m, S, ρ, QA, rS, rE, h, fin⟩ := h
    refine ⟨m, S, ρ, _, rS, rE, h, fun H1 m1 S1 x v s1 rS1 rv1 q1 => ?_⟩
    obtain ⟨k, rfl, q⟩ := Bl_of q1
    exact ⟨k, rv1, fin H1 m1 S1 k s1 rS1 q⟩)
theorem st_val {e : Expr} {t : ATE} (h : SE X e t) (he : ∀ whole, isTrue e X.env whole = (do let v ← whole; standAt e.pos; holding [v] (truthy v)) := by intro _; rfl) : ST X e (aB t) :=
  PT.imp (pt_val h he) fun σ H Q h => b_imp h
theorem st_tru {e : Expr} {t : ATE} (h : SE X e t) (he : ∀ whole, isTrue e X.env whole = (do let v ← whole; standAt e.pos; holding [v] (truthy v)) := by intro _; rfl) : ST X e (aTru t) := by
  refine PT.imp (pt_truth h he) fun σ H Q h => ?_
  obtain ⟨m, S, ρ, QA, rS, rE, h, fin⟩ := h
  refine ⟨m, S, ρ, _, rS, rE, h, fun H1 m1 S1 x v s1 rS1 rv1 q1 => ?_⟩
  have go : ∀ k, TruV X.K v H1 k → QA k S1 → ∃ k, TruV X.K v H1 k ∧ Q k H1 := fun k tv q => ⟨k, tv, fin H1 m1 S1 k s1 rS1 q⟩
  unfold truA at q1
  cases e : asL S1 x with
  | some xs =>
    rw [e] at q1
    obtain ⟨p, vs, rfl, h1, _, r1⟩ := asL_rep rS1 rv1 e
    refine go _ (.inl ⟨vs, h1, rfl⟩) ?_
    have el : vs.isEmpty = xs.isEmpty := by
      have l := r1.length
      cases xs <;> cases vs <;> simp at l <;> rfl
    rw [el]
    exact q1
  | none =>
    rw [e] at q1
    cases x with
    | tup xs =>
      obtain ⟨p, vs, rfl, h1, _, r1⟩ := rv1
      refine go _ (.inr (.inl ⟨vs, h1.seq, rfl⟩)) ?_
      have el : vs.isEmpty = xs.isEmpty := by
        have l := r1.length
        cases xs <;> cases vs <;> simp at l <;> rfl
      rw [el]
      exact q1
    | non => cases rv1; exact go _ rfl q1
    | bl b => cases rv1; exact go _ rfl q1
    | int b => cases rv1; exact go _ rfl q1
    | _ => exact q1.elim
theorem st_not (h : ST X a tA) : ST X (.UnaryOp .Not a pos) (aNotT tA) :=
  PT.imp (pt_not h) fun σ H Q h => by
    obtain ⟨m, S, ρ, QA, rS, rE, h, fin⟩ := h
    exact ⟨m, S, ρ, _, rS, rE, h, fun H1 m1 S1 b s1 rS1 q1 => fin H1 m1 S1 _ s1 rS1 q1⟩
def SW (X : Cx) (e : Expr) (t : ATT) : Prop := PW X e (lT X.K t)
theorem SW.st {e : Expr} {t : ATT} (h : SW X e t) : ST X e t := PW.pt h
theorem sw_and1 (h : ST X a tA) : SW X (.BoolOp .And [a] pos) tA := pw_and1 h
theorem sw_or1 (h : ST X a tA) : SW X (.BoolOp .Or [a] pos) tA := pw_or1 h
theorem sw_and (ha : ST X a tA) (hb : SW X (.BoolOp .And (b :: rest) pos) tB) : SW X (.BoolOp .And (a :: b :: rest) pos) (aAndT tA tB) :=
  PW.imp (pw_and ha hb) fun σ H Q h => by
    obtain ⟨m, S, ρ, QA, rS, rE, h, fin⟩ := h
    refine ⟨m, S, ρ, _, rS, rE, h, fun H1 m1 S1 b s1 rS1 q1 => ?_⟩
    cases b with
    | true => exact iteT ⟨m1, S1, ρ, QA, rS1, rE.stp s1, q1, fun H2 m2 S2 k s2 => fin H2 m2 S2 k (s1.trans s2)⟩
    | false => exact iteF (fin H1 m1 S1 _ s1 rS1 q1)
theorem sw_or (ha : ST X a tA) (hb : SW X (.BoolOp .Or (b :: rest) pos) tB) : SW X (.BoolOp .Or (a :: b :: rest) pos) (aOrT tA tB) :=
  PW.imp (pw_or ha hb) fun σ H Q h => by
    obtain ⟨m, S, ρ, QA, rS, rE, h, fin⟩ := h
    refine ⟨m, S, ρ, _, rS, rE, h, fun H1 m1 S1 b s1 rS1 q1 => ?_⟩
    cases b with
    | false => exact iteF ⟨m1, S1, ρ, QA, rS1, rE.stp s1, q1, fun H2 m2 S2 k s2 => fin H2 m2 S2 k (s1.trans s2)⟩
    | true => exact iteT (fin H1 m1 S1 _ s1 rS1 q1)
theorem se_one {op} {t : ATE} (h : SE X a t) : SE X (.BoolOp op [a] pos) t := pe_one h
theorem se_and (ha : SE X a ta) (hb : SE X (.BoolOp .And (b :: rest) pos) tb) : SE X (.BoolOp .And (a :: b :: rest) pos) (aAndV ta tb) :=
  PE.imp (pe_and ha hb) fun σ H Q h => by
    obtain ⟨m, S, ρ, QA, rS, rE, h, fin⟩ := h
    refine ⟨m, S, ρ, _, rS, rE, h, fun H1 m1 S1 x v s1 rS1 rv1 q1 => ?_⟩
    split at q1
    · exact ⟨true, rv1, iteT ⟨m1, S1, ρ, QA, rS1, rE.stp s1, q1, Fin.stp s1 fin⟩⟩
    · exact ⟨false, rv1, iteF (fin H1 m1 S1 _ _ s1 rS1 (show RepV X.K H1 m1 (.bl false) (.bl false) from rfl) q1)⟩
    · exact q1.elim
theorem se_or (ha : SE X a ta) (hb : SE X (.BoolOp .Or (b :: rest) pos) tb) : SE X (.BoolOp .Or (a :: b :: rest) pos) (aOrV ta tb) :=
  PE.imp (pe_or ha hb) fun σ H Q h => by
    obtain ⟨m, S, ρ, QA, rS, rE, h, fin⟩ := h
    refine ⟨m, S, ρ, _, rS, rE, h, fun H1 m1 S1 x v s1 rS1 rv1 q1 => ?_⟩
    split at q1
    · exact ⟨true, rv1, iteT (fin H1 m1 S1 _ _ s1 rS1 (show RepV X.K H1 m1 (.bl true) (.bl true) from rfl) q1)⟩
    · exact ⟨false, rv1, iteF ⟨m1, S1, ρ, QA, rS1, rE.stp s1, q1, Fin.stp s1 fin⟩⟩
    · exact q1.elim
theorem se_not (ha : SE X a ta) : SE X (.UnaryOp .Not a pos) (aNotV ta) :=
  PE.imp (pe_not ha) fun σ H Q h => by
    obtain ⟨m, S, ρ, QA, rS, rE, h, fin⟩ := h
    refine ⟨m, S, ρ, _, rS, rE, h, fun H1 m1 S1 x v s1 rS1 rv1 q1 => ?_⟩
    obtain ⟨k, rfl, q⟩ := Bl_of (Q := fun b => QA (.bl (!b)) S1) q1
    exact ⟨k, rv1, fin H1 m1 S1 _ _ s1 rS1 (show RepV X.K H1 m1 (.bl (!k)) (.bl (!k)) from rfl) q⟩
theorem se_ifE (hc : ST X c tA) (ha : SE X a ta) (hb : SE X b tb) : SE X (.IfExp c a b pos) (aIfE tA ta tb) :=
  PE.imp (pe_ifExp hc ha hb) fun σ H Q h => by
    obtain ⟨m, S, ρ, QA, rS, rE, h, fin⟩ := h
    refine ⟨m, S, ρ, _, rS, rE, h, fun H1 m1 S1 b s1 rS1 q1 => ?_⟩
    cases b with
    | true => exact iteT ⟨m1, S1, ρ, QA, rS1, rE.stp s1, q1, Fin.stp s1 fin⟩
    | false => exact iteF ⟨m1, S1, ρ, QA, rS1, rE.stp s1, q1, Fin.stp s1 fin⟩
/-- a < b < c -/
def aChain (r r' : R2A) (ta tb tc : ATE) : ATE := fun ρ S Q => ta ρ S fun x S1 => tb ρ S1 fun y S2 => r x y S2 fun z S3 => match z with
  | .bl true => tc ρ S3 fun w S4 => r' y w S4 Q
  | .bl false => Q (.bl false) S3
  | _ => False
theorem chain_imp {K : PySem.W.Frag} {r r' : R2A} {σ : L2.St} {H : Hp} {Q : VK} (h : lE K (aChain r r' ta tb tc) σ H Q) : tChain (lR2 K r) (lR2 K r') (lE K ta) (lE K tb) (lE K tc) σ H Q := by
  obtain ⟨m, S, ρ, QA, rS, rE, h, fin⟩ := h
  refine ⟨m, S, ρ, _, rS, rE, h, fun H1 m1 S1 x v s1 rS1 rv1 q1 => ?_⟩
  refine ⟨m1, S1, ρ, _, rS1, rE.stp s1, q1, fun H2 m2 S2 y u s2 rS2 rv2 q2 => ?_⟩
  refine ⟨m2, S2, x, y, _, rS2, rv1.stp s2, rv2, q2, fun H3 m3 S3 z w s3 rS3 rv3 q3 => ?_⟩
  split at q3
  · refine ⟨true, rv3, iteT ⟨m3, S3, ρ, _, rS3, rE.stp ((s1.trans s2).trans s3), q3, fun H4 m4 S4 z w s4 rS4 rv4 q4 => ?_⟩⟩
    exact ⟨m4, S4, y, z, QA, rS4, rv2.stp (s3.trans s4), rv4, q4, Fin.stp (((s1.trans s2).trans s3).trans s4) fin⟩
  · exact ⟨false, rv3, iteF (fin H3 m3 S3 _ _ ((s1.trans s2).trans s3) rS3 (show RepV K H3 m3 (.bl false) (.bl false) from rfl) q3)⟩
  · exact q3.elim
theorem se_chain {op op' : CmpOp} {r r' : R2A} (ho : OpR X (compareOp op) (lR2 X.K r)) (ho' : OpR X (compareOp op') (lR2 X.K r')) (ha : SE X a ta) (hb : SE X b tb) (hc : SE X c tc)
    (hm : lastMarks [op, op'] [b, c] = false := by with_unfolding_all rfl) : SE X (.Compare a [op, op'] [b, c] pos) (aChain r r' ta tb tc) :=
  PE.imp (pe_chain ho ho' ha hb hc hm) fun _ _ _ h => chain_imp h
theorem st_chain {op op' : CmpOp} {r r' : R2A} (ho : OpR X (compareOp op) (lR2 X.K r)) (ho' : OpR X (compareOp op') (lR2 X.K r')) (ha : SE X a ta) (hb : SE X b tb) (hc : SE X c tc)
    (hm : lastMarks [op, op'] [b, c] = false := by with_unfolding_all rfl) : ST X (.Compare a [op, op'] [b, c] pos) (aB (aChain r r' ta tb tc)) :=
  PT.imp (pt_chain ho ho' ha hb hc hm) fun σ H Q h => chain_imp (by
    obtain ⟨m, S, ρ, QA, rS, rE, h, fin⟩ := h
    refine ⟨m, S, ρ, _, rS, rE, h, fun H1 m1 S1 x v s1 rS1 rv1 q1 => ?_⟩
    obtain ⟨k, rfl, q⟩ := Bl_of q1
    exact ⟨k, rv1, fin H1 m1 S1 k s1 rS1 q⟩)
end

/-! ### argument lists, displays -/
def aNil : ATA := fun _ S Q => Q [] S
def aCons (ta : ATE) (tr : ATA) : ATA := fun ρ S Q => ta ρ S fun x S1 => tr ρ S1 fun xs S2 => Q (x :: xs) S2
def aTup (t : ATA) : ATE := fun ρ S Q => t ρ S fun xs S1 => xs.length ≤ sizeLine ∧ Q (.tup xs) S1
def aLst (mu : Bool) (t : ATA) : ATE := fun ρ S Q => t ρ S fun xs S1 => xs.length ≤ sizeLine ∧ aNew mu xs S1 Q
section
variable {X : Cx} {e : Expr} {es : List Expr} {te : ATE} {t : ATA} {pos : Pos}
theorem sa_nil : SA X [] aNil := PA.imp pa_nil fun σ H Q h => by
  obtain ⟨m, S, ρ, QA, rS, rE, h, fin⟩ := h
  exact fin H m S [] [] (.refl _ _) rS rfl h
theorem sa_cons (ha : SE X e te) (hr : SA X es t) (hs : starEach (e :: es) X.env = (false, eval e X.env) :: starEach es X.env := by rfl) : SA X (e :: es) (aCons te t) :=
  PA.imp (pa_cons ha hr hs) fun σ H Q h => by
    obtain ⟨m, S, ρ, QA, rS, rE, h, fin⟩ := h
    refine ⟨m, S, ρ, _, rS, rE, h, fun H1 m1 S1 x v s1 rS1 rv1 q1 => ?_⟩
    refine ⟨m1, S1, ρ, _, rS1, rE.stp s1, q1, fun H2 m2 S2 xs vs s2 rS2 rv2 q2 => ?_⟩
    exact fin H2 m2 S2 (x :: xs) (v :: vs) (s1.trans s2) rS2 ⟨v, vs, rfl, rv1.stp s2, rv2⟩ q2
theorem se_tup {x1} (h : SA X es t) : SE X (.Tuple es x1 pos) (aTup t) :=
  PE.imp (pe_tup h) fun σ H Q h => by
    obtain ⟨m, S, ρ, QA, rS, rE, h, fin⟩ := h
    refine ⟨m, S, ρ, _, rS, rE, h, fun H1 m1 S1 xs vs s1 rS1 rv1 q1 => ?_⟩
    have l := rv1.length
    exact ⟨by rw [← l]; exact q1.1, fun p hp => (Fin.stp s1 fin).newT rS1 rv1 (by rw [← l]; exact q1.1) q1.2 hp⟩
theorem se_lst (mu : Bool) (h : SA X es t) : SE X (.List es pos) (aLst mu t) :=
  PE.imp (pe_lst h) fun σ H Q h => by
    obtain ⟨m, S, ρ, QA, rS, rE, h, fin⟩ := h
    refine ⟨m, S, ρ, _, rS, rE, h, fun H1 m1 S1 xs vs s1 rS1 rv1 q1 => ?_⟩
    have l := rv1.length
    exact ⟨by rw [← l]; exact q1.1, fun p hp => (Fin.stp s1 fin).new rS1 rv1 (by rw [← l]; exact q1.1) q1.2 hp⟩
end

/-! ### subscripts -/
def ixA {α : Type} (xs : List α) : Int → Option α
  | .ofNat n => xs[n]?
  | .negSucc n => if n < xs.length then xs[xs.length - 1 - n]? else none
theorem ixA_atI {α : Type} (xs : List α) (i : Int) : atI xs i = ixA xs i := by
  unfold atI ixN
  cases i with
  | ofNat n =>
    have h0 : (0 : Int) ≤ Int.ofNat n := Int.natCast_nonneg n
    rw [if_pos h0]
    show _ = xs[n]?
    by_cases h : n < xs.length
    · rw [if_pos (show Int.ofNat n < (xs.length : Int) from Int.ofNat_lt.mpr h)]
      rfl
    · rw [if_neg (show ¬ Int.ofNat n < (xs.length : Int) from fun z => h (Int.ofNat_lt.mp z)), List.getElem?_eq_none (by omega)]
      rfl
  | negSucc n =>
    rw [if_neg (show ¬ (0 : Int) ≤ Int.negSucc n by omega)]
    show _ = if n < xs.length then xs[xs.length - 1 - n]? else none
    by_cases h : n < xs.length
    · rw [if_pos (show -(xs.length : Int) ≤ Int.negSucc n by omega), if_pos h]
      show xs[(Int.negSucc n + (xs.length : Int)).toNat]? = _
      congr 1
      omega
    · rw [if_neg (show ¬ -(xs.length : Int) ≤ Int.negSucc n by omega), if_neg h]
      rfl
def seqA (S : Sto) (x : AV) : Option (List AV) := match x with
  | .tup xs => some xs
  | x => asL S x
def rIxA : R2A
  | .str z, .int i, S, Q => z.length ≤ sizeLine ∧ (match ixA z.cps.toList i with
    | some c => Q (.str ⟨#[c]⟩) S
    | none => False)
  | x, .int i, S, Q => match seqA S x with
    | some xs => match ixA xs i with
      | some y => Q y S
      | none => False
    | none => False
  | _, _, _, _ => False
theorem rIxA_of {x y : AV} {S : Sto} {Q : AQ} (h : rIxA x y S Q) : ∃ i, y = .int i ∧ ((∃ z c, x = .str z ∧ z.length ≤ sizeLine ∧ ixA z.cps.toList i = some c ∧ Q (.str ⟨#[c]⟩) S) ∨ ∃ xs y, seqA S x = some xs ∧ ixA xs i = some y ∧ Q y S) := by
  unfold rIxA at h
  split at h
  · obtain ⟨h1, h2⟩ := h
    split at h2
    · exact ⟨_, rfl, .inl ⟨_, _, rfl, h1, by assumption, h2⟩⟩
    · exact h2.elim
  · split at h
    · split at h
      · exact ⟨_, rfl, .inr ⟨_, _, by assumption, by assumption, h⟩⟩
      · exact h.elim
    · exact h.elim
  · exact h.elim
theorem seqA_rep {K : PySem.W.Frag} {H : Hp} {m : MM} {S : Sto} {x : AV} {v : V} {xs : List AV} (r : RepS K H m S) (h : RepV K H m x v) (e : seqA S x = some xs) : ∃ a vs, v = .ref a ∧ (SqL K H a vs ∨ SqT K H a vs) ∧ vs.length ≤ sizeLine ∧ RepVs K H m xs vs := by
  cases x with
  | tup ys =>
    obtain ⟨a, vs, h1, h2, h3, h4⟩ := asT_rep (xs := xs) h e
    exact ⟨a, vs, h1, .inr h2, h3, h4⟩
  | _ =>
    first
      | (have e' : (none : Option (List AV)) = some xs := e
         cases e')
      | (obtain ⟨a, vs, h1, h2, h3, h4⟩ := asL_rep (xs := xs) r h e; exact ⟨a, vs, h1, .inl h2, h3, h4⟩)
theorem ixA_rep {K : PySem.W.Frag} {H : Hp} {m : MM} {xs : List AV} {vs : List V} {i : Int} {y : AV} (r : RepVs K H m xs vs) (e : ixA xs i = some y) : ∃ u, atI vs i = some u ∧ RepV K H m y u := by
  rw [ixA_atI]
  have l := r.length
  unfold ixA at e ⊢
  split at e
  · exact r.get e
  · split at e
    · rename_i n h
      rw [if_pos (show n < vs.length by omega), ← l]
      exact r.get e
    · cases e
theorem ix_A {X : Cx} : IxR X (lR2 X.K rIxA) := by
  intro ve se pins s σ H x y v u Q I rx ry h hpl
  obtain ⟨m, S, ax, ay, QA, rS, hx, hy, h, fin⟩ := h
  obtain ⟨i, ei, hh⟩ := rIxA_of h
  subst ei
  rcases hh with ⟨z, c, ez, h1, h2, q⟩ | ⟨xs, z, e1, e2, q⟩
  · subst ez
    exact ix_str ve se pins s σ H x y v u Q I rx ry ⟨z, i, c, hx, hy, h1, by rw [ixA_atI]; exact h2, fin.here (z := .str ⟨#[c]⟩) rS rfl q⟩ hpl
  · obtain ⟨a, vs, h1, h2, _, h4⟩ := seqA_rep rS hx e1
    obtain ⟨w, g1, g2⟩ := ixA_rep h4 e2
    rcases h2 with h2 | h2
    · exact ix_list ve se pins s σ H x y v u Q I rx ry ⟨a, vs, i, w, h1, hy, h2, g1, fin.here rS g2 q⟩ hpl
    · exact ix_tup ve se pins s σ H x y v u Q I rx ry ⟨a, vs, i, w, h1, hy, h2, g1, fin.here rS g2 q⟩ hpl

/-! ### slices -/
abbrev ATO := AEnv → Sto → (Option Int → Sto → Prop) → Prop
def lO (K : PySem.W.Frag) (t : ATO) : TO := fun σ H Q => ∃ m S ρ QA, RepS K H m S ∧ RepE K H m ρ σ ∧ t ρ S QA ∧ ∀ H' m' S' o, Stp H m H' m' → RepS K H' m' S' → QA o S' → Q o H'
def SO (X : Cx) (e : Option Expr) (t : ATO) : Prop := PO X e (lO X.K t)
def aNoPart : ATO := fun _ S Q => Q none S
def aPart (t : ATE) : ATO := fun ρ S Q => t ρ S fun x S1 => match x with
  | .int i => Q (some i) S1
  | _ => False
theorem PO.imp {X : Cx} {e : Option Expr} {t t' : TO} (h : PO X e t) (i : ∀ σ H Q, t' σ H Q → t σ H Q) : PO X e t' := ⟨fun pins s σ H Q I q => h.run pins s σ H Q I (i σ H Q q)⟩
/-- where a part of a slice stands -/
def sixA (n d : Nat) : Option Int → Nat
  | none => d
  | some (.ofNat k) => min k n
  | some (.negSucc k) => n - (k + 1)
theorem sixA_eq (n d : Nat) (o : Option Int) : HT.sIx n d o = sixA n d o := by
  cases o with
  | none => rfl
  | some i =>
    cases i with
    | ofNat k => exact HT.sIx_nat n d k
    | negSucc k =>
      have h := HT.clip_eq (Int.negSucc k) n d
      rw [if_pos (show Int.negSucc k < 0 by omega)] at h
      show _ = n - (k + 1)
      omega
def cutA {α : Type} (xs : List α) (lo hi : Option Int) : List α := (xs.drop (sixA xs.length 0 lo)).take (sixA xs.length xs.length hi - sixA xs.length 0 lo)
theorem cutA_rep {K : PySem.W.Frag} {H : Hp} {m : MM} {xs : List AV} {vs : List V} {lo hi : Option Int} (r : RepVs K H m xs vs) : RepVs K H m (cutA xs lo hi) (cutV vs lo hi) := by
  unfold cutA cutV
  rw [sixA_eq, sixA_eq, ← r.length]
  exact (r.drop _).take _
def cutSA (z : Str) (lo hi : Option Int) : Str := ⟨(cutA z.cps.toList lo hi).toArray⟩
theorem cutSA_eq (z : Str) (lo hi : Option Int) : cutS z lo hi = cutSA z lo hi := by
  unfold cutS cutSA cutA
  rw [sixA_eq, sixA_eq]
  have e : z.cps.toList.length = z.length := by show z.cps.toList.length = z.cps.size; simp
  rw [e]
def rSlA' (mu : Bool) : AV → Option Int → Option Int → Sto → AQ → Prop
  | .str z, lo, hi, S, Q => z.length ≤ sizeLine ∧ Q (.str (cutSA z lo hi)) S
  | .tup xs, lo, hi, S, Q => Q (.tup (cutA xs lo hi)) S
  | x, lo, hi, S, Q => match asL S x with
    | some xs => aNew mu (cutA xs lo hi) S Q
    | none => False
theorem rSlA_of {mu : Bool} {x : AV} {lo hi : Option Int} {S : Sto} {Q : AQ} (h : rSlA' mu x lo hi S Q) : (∃ z, x = .str z ∧ z.length ≤ sizeLine ∧ Q (.str (cutSA z lo hi)) S) ∨ (∃ xs, x = .tup xs ∧ Q (.tup (cutA xs lo hi)) S) ∨ ∃ xs, asL S x = some xs ∧ aNew mu (cutA xs lo hi) S Q := by
  unfold rSlA' at h
  split at h
  · exact .inl ⟨_, rfl, h⟩
  · exact .inr (.inl ⟨_, rfl, h⟩)
  · split at h
    · exact .inr (.inr ⟨_, by assumption, h⟩)
    · exact h.elim
def lSl (K : PySem.W.Frag) (r : AV → Option Int → Option Int → Sto → AQ → Prop) : V → Option Int → Option Int → Hp → VK → Prop := fun x lo hi H Q => ∃ m S ax QA, RepS K H m S ∧ RepV K H m ax x ∧ r ax lo hi S QA ∧ Fin K H m QA Q
theorem sl_A {X : Cx} (mu : Bool) : SlR X (lSl X.K (rSlA' mu)) := by
  intro pins s σ H x v vl vu lo hi sl Q I rx hs pl pu h
  obtain ⟨m, S, ax, QA, rS, hx, h, fin⟩ := h
  rcases rSlA_of h with ⟨z, rfl, hz, q⟩ | ⟨xs, rfl, q⟩ | ⟨xs, e, q⟩
  · exact sl_str pins s σ H x v vl vu lo hi sl Q I rx hs pl pu ⟨z, hx, hz, by rw [cutSA_eq]; exact fin.here (z := .str (cutSA z lo hi)) rS rfl q⟩
  · obtain ⟨a, vs, e1, h1, z1, r1⟩ := hx
    have l := r1.length
    refine sl_tupA pins s σ H x v vl vu lo hi sl Q I rx hs pl pu ⟨a, vs, e1, h1.seq, fun hw => ?_, fun _ p hp => ?_⟩
    · refine fin.here (z := .tup (cutA xs lo hi)) rS ⟨a, vs, rfl, h1, z1, ?_⟩ q
      have e : cutA xs lo hi = xs := by
        unfold cutA
        rw [← sixA_eq, ← sixA_eq, l, hw.1, hw.2, List.drop_zero, Nat.sub_zero, ← l, List.take_length]
      rw [e]
      exact r1
    · exact fin.newT rS (cutA_rep r1) (Nat.le_trans (cutV_length _ _ _) z1) q hp
  · obtain ⟨a, vs, e1, h1, z1, r1⟩ := asL_rep rS hx e
    exact sl_list pins s σ H x v vl vu lo hi sl Q I rx hs pl pu ⟨a, vs, e1, h1, fun p hp => fin.new rS (cutA_rep r1) (Nat.le_trans (cutV_length _ _ _) z1) q hp⟩
def aSl (mu : Bool) (te : ATE) (tl th : ATO) : ATE := fun ρ S Q => te ρ S fun x S1 => tl ρ S1 fun lo S2 => th ρ S2 fun hi S3 => rSlA' mu x lo hi S3 Q
section
variable {X : Cx} {e : Expr} {te : ATE} {lo hi : Option Expr} {tl th : ATO} {pos p2 : Pos}
theorem so_none : SO X none aNoPart := PO.imp po_none fun σ H Q h => by
  obtain ⟨m, S, ρ, QA, rS, rE, h, fin⟩ := h
  exact fin H m S none (.refl _ _) rS h
theorem so_some (h : SE X e te) : SO X (some e) (aPart te) := PO.imp (po_some h) fun σ H Q h => by
  obtain ⟨m, S, ρ, QA, rS, rE, h, fin⟩ := h
  refine ⟨m, S, ρ, _, rS, rE, h, fun H1 m1 S1 x v s1 rS1 rv1 q1 => ?_⟩
  split at q1
  · rename_i i
    exact ⟨i, rv1, fin H1 m1 S1 _ s1 rS1 q1⟩
  · exact q1.elim
theorem se_slice (mu : Bool) (he : SE X e te) (hl : SO X lo tl) (hu : SO X hi th) : SE X (.Subscript e (.Slice lo hi none p2) pos) (aSl mu te tl th) :=
  PE.imp (pe_slice (sl_A mu) he hl hu) fun σ H Q h => by
    obtain ⟨m, S, ρ, QA, rS, rE, h, fin⟩ := h
    refine ⟨m, S, ρ, _, rS, rE, h, fun H1 m1 S1 x v s1 rS1 rv1 q1 => ?_⟩
    refine ⟨m1, S1, ρ, _, rS1, rE.stp s1, q1, fun H2 m2 S2 lo s2 rS2 q2 => ?_⟩
    refine ⟨m2, S2, ρ, _, rS2, rE.stp (s1.trans s2), q2, fun H3 m3 S3 hi s3 rS3 q3 => ?_⟩
    exact ⟨m3, S3, x, QA, rS3, rv1.stp (s2.trans s3), q3, Fin.stp ((s1.trans s2).trans s3) fin⟩
end

/-! ### calls -/
abbrev RA := List AV → Sto → AQ → Prop
def aCall (sp : SpA) (t : ATA) : ATE := fun ρ S Q => t ρ S fun xs S1 => sp xs S1 Q
section
variable {X : Cx} {CX : CXT} {k : Nat} {f : Addr} {fd : FuncData} {ps : List Str} {sp : SpA} {x : Str} {p pos : Pos} {e : Expr} {es : List Expr} {t : ATA}
theorem args_imp {K : PySem.W.Frag} {r : RA} {t : ATA} {σ : L2.St} {H : Hp} {Q : VK} (h : lE K (aCall r t) σ H Q) : lA K t σ H fun vs H1 => lRs K r vs H1 Q := by
  obtain ⟨m, S, ρ, QA, rS, rE, h, fin⟩ := h
  refine ⟨m, S, ρ, _, rS, rE, h, fun H1 m1 S1 xs vs s1 rS1 rv1 q1 => ?_⟩
  exact ⟨m1, S1, xs, QA, rS1, rv1, q1, Fin.stp s1 fin⟩
theorem se_call {E : XK} (F : FnOk X.prog X.w X.K X.mg X.base CX k f fd ps (lSp X.K sp)) (hr : Room k X.A) (hg : Gl X x) (hm : X.mg x = some (.ref f)) (hk : PySem.W.keepIn X.K (.ref f) = true) (hb : Binds X.K fd ps []) (hx : Passes CX X E)
    (ha : SA X (e :: es) t) (hdb : (x == ("__debug__" : Str)) = false := by decide) (he : starEach (e :: es) X.env = (false, eval e X.env) :: starEach es X.env := by rfl) (hpl : (backTo pos (starEach es X.env)).any (·.1) = false := by rfl) :
    SE X (.Call (.Name x p) (e :: es) [] pos) (aCall sp t) :=
  PE.imp (pe_call F hr hg hm hk hb .nil hx ha hdb he hpl) fun σ H Q h => by
    have h := args_imp h
    unfold tCall
    simp only [List.append_nil]
    exact h
theorem se_callB {id : String} {r : RA} (hc : CallR X (.builtin id) (lRs X.K r)) (hg : Gl X x) (hm : X.mg x = none) (hv : bootBuiltins x = some (.builtin id)) (ha : SA X (e :: es) t) (hn : x ≠ "__name__" := by decide) (hdb : (x == ("__debug__" : Str)) = false := by decide)
    (he : starEach (e :: es) X.env = (false, eval e X.env) :: starEach es X.env := by rfl) (hpl : (backTo pos (starEach es X.env)).any (·.1) = false := by rfl) : SE X (.Call (.Name x p) (e :: es) [] pos) (aCall r t) :=
  PE.imp (pe_callB hc hg hm hv ha hn hdb he hpl) fun σ H Q h => args_imp h
theorem se_callTy {T : String} {r : RA} (hc : CallR X (.type T) (lRs X.K r)) (hg : Gl X x) (hm : X.mg x = none) (hv : bootBuiltins x = some (.type T)) (ha : SA X (e :: es) t) (hn : x ≠ "__name__" := by decide) (hdb : (x == ("__debug__" : Str)) = false := by decide)
    (he : starEach (e :: es) X.env = (false, eval e X.env) :: starEach es X.env := by rfl) (hpl : (backTo pos (starEach es X.env)).any (·.1) = false := by rfl) : SE X (.Call (.Name x p) (e :: es) [] pos) (aCall r t) :=
  PE.imp (pe_callTy hc hg hm hv ha hn hdb he hpl) fun σ H Q h => args_imp h
end
theorem RepVs.one_of {K : PySem.W.Frag} {H : Hp} {m : MM} {x : AV} {vs : List V} (h : RepVs K H m [x] vs) : ∃ v, vs = [v] ∧ RepV K H m x v := by
  obtain ⟨v, r, rfl, h1, h2⟩ := h
  cases h2
  exact ⟨v, rfl, h1⟩
theorem RepVs.two_of {K : PySem.W.Frag} {H : Hp} {m : MM} {x y : AV} {vs : List V} (h : RepVs K H m [x, y] vs) : ∃ v w, vs = [v, w] ∧ RepV K H m x v ∧ RepV K H m y w := by
  obtain ⟨v, r, rfl, h1, h2⟩ := h
  obtain ⟨w, rfl, h3⟩ := h2.one_of
  exact ⟨v, w, rfl, h1, h3⟩
/-- len -/
def lenA (S : Sto) : AV → Option Nat
  | .tup xs => some xs.length
  | .fl xs => some xs.length
  | .sl xs => some xs.length
  | .ref n => match S[n]? with
    | some (.lst xs) => some xs.length
    | _ => none
  | _ => none
def rLenA : RA
  | [.str z], S, Q => z.length ≤ sizeLine ∧ Q (.int z.length) S
  | [x], S, Q => match lenA S x with
    | some n => Q (.int n) S
    | none => False
  | _, _, _ => False
theorem rLenA_of {xs : List AV} {S : Sto} {Q : AQ} (h : rLenA xs S Q) : ∃ x, xs = [x] ∧ ((∃ z, x = .str z ∧ z.length ≤ sizeLine ∧ Q (.int z.length) S) ∨ ∃ n, lenA S x = some n ∧ Q (.int n) S) := by
  unfold rLenA at h
  split at h
  · exact ⟨_, rfl, .inl ⟨_, rfl, h⟩⟩
  · split at h
    · exact ⟨_, rfl, .inr ⟨_, by assumption, h⟩⟩
    · exact h.elim
  · exact h.elim
theorem lenA_seq {S : Sto} {x : AV} {n : Nat} (h : lenA S x = some n) : ∃ xs, seqA S x = some xs ∧ xs.length = n := by
  cases x with
  | tup xs => exact ⟨xs, rfl, Option.some.inj h⟩
  | fl xs => exact ⟨xs, rfl, Option.some.inj h⟩
  | sl xs => exact ⟨xs, rfl, Option.some.inj h⟩
  | ref k =>
    unfold lenA at h
    dsimp only at h
    split at h
    · rename_i xs e
      refine ⟨xs, ?_, Option.some.inj h⟩
      show (match S[k]? with
        | some (.lst xs) => some xs
        | _ => none) = some xs
      rw [e]
    · cases h
  | _ => exact nomatch h
theorem cr_lenA {X : Cx} : CallR X (.builtin "len") (lRs X.K rLenA) := by
  intro pins s σ H xs us Q I r h
  obtain ⟨m, S, axs, QA, rS, hx, h, fin⟩ := h
  obtain ⟨x, rfl, h'⟩ := rLenA_of h
  obtain ⟨v, rfl, hx1⟩ := hx.one_of
  rcases h' with ⟨z, rfl, hz, q⟩ | ⟨n, e, q⟩
  · have hx2 : v = .str z := hx1
    subst hx2
    exact call_len_str pins s σ H _ us Q I r ⟨z, rfl, hz, fin.here (z := .int z.length) rS rfl q⟩
  · obtain ⟨ys, e1, e2⟩ := lenA_seq e
    obtain ⟨a, vs, rfl, h2, _, h4⟩ := seqA_rep rS hx1 e1
    refine call_len_seq pins s σ H _ us Q I r ⟨a, vs, rfl, h2, ?_⟩
    rw [← h4.length, e2]
    exact fin.here (z := .int n) rS rfl q
/-- max, min of two -/
def rMaxA : RA
  | [.int i, .int j], S, Q => Q (.int (if j > i then j else i)) S
  | _, _, _ => False
def rMinA : RA
  | [.int i, .int j], S, Q => Q (.int (if j < i then j else i)) S
  | _, _, _ => False
theorem cr_maxA {X : Cx} (hc : X.calm = true) : CallR X (.builtin "max") (lRs X.K rMaxA) := by
  intro pins s σ H xs us Q I r h
  obtain ⟨m, S, axs, QA, rS, hx, h, fin⟩ := h
  unfold rMaxA at h
  split at h
  · rename_i i j
    obtain ⟨v, w, rfl, h1, h2⟩ := hx.two_of
    have h1 : v = .int i := h1
    have h2 : w = .int j := h2
    subst h1; subst h2
    exact call_max2 hc pins s σ H _ us Q I r ⟨i, j, rfl, fin.here (z := .int (if j > i then j else i)) rS rfl h⟩
  · exact h.elim
theorem cr_minA {X : Cx} (hc : X.calm = true) : CallR X (.builtin "min") (lRs X.K rMinA) := by
  intro pins s σ H xs us Q I r h
  obtain ⟨m, S, axs, QA, rS, hx, h, fin⟩ := h
  unfold rMinA at h
  split at h
  · rename_i i j
    obtain ⟨v, w, rfl, h1, h2⟩ := hx.two_of
    have h1 : v = .int i := h1
    have h2 : w = .int j := h2
    subst h1; subst h2
    exact call_min2 hc pins s σ H _ us Q I r ⟨i, j, rfl, fin.here (z := .int (if j < i then j else i)) rS rfl h⟩
  · exact h.elim
/-- int(n), int(a truth) -/
def rIntA : RA
  | [.int i], S, Q => Q (.int i) S
  | [.bl k], S, Q => Q (.int (if k then 1 else 0)) S
  | _, _, _ => False
theorem cr_intA {X : Cx} : CallR X (.type "int") (lRs X.K rIntA) := by
  intro pins s σ H xs us Q I r h
  obtain ⟨m, S, axs, QA, rS, hx, h, fin⟩ := h
  unfold rIntA at h
  split at h
  · rename_i i
    obtain ⟨v, rfl, h1⟩ := hx.one_of
    have h1 : v = .int i := h1
    subst h1
    exact call_int1 pins s σ H _ us Q I r (.inl ⟨i, rfl, fin.here (z := .int i) rS rfl h⟩)
  · rename_i i
    obtain ⟨v, rfl, h1⟩ := hx.one_of
    have h1 : v = .bl i := h1
    subst h1
    exact call_int1 pins s σ H _ us Q I r (.inr ⟨i, rfl, fin.here (z := .int (if i then 1 else 0)) rS rfl h⟩)
  · exact h.elim
/-- lists of one kind -/
def ints? : List AV → Option (List Int)
  | [] => some []
  | .int i :: xs => match ints? xs with
    | some r => some (i :: r)
    | none => none
  | _ => none
def bls? : List AV → Option (List Bool)
  | [] => some []
  | .bl i :: xs => match bls? xs with
    | some r => some (i :: r)
    | none => none
  | _ => none
def strs? : List AV → Option (List Str)
  | [] => some []
  | .str i :: xs => match strs? xs with
    | some r => some (i :: r)
    | none => none
  | _ => none
theorem ints_of : ∀ {xs : List AV} {ns : List Int}, ints? xs = some ns → xs = ns.map AV.int
  | [], _, h => by cases h; rfl
  | .int i :: xs, ns, h => by
    unfold ints? at h
    split at h
    · rename_i r e
      cases h
      rw [ints_of e]
      rfl
    · cases h
  | .non :: _, _, h => nomatch h
  | .bl _ :: _, _, h => nomatch h
  | .str _ :: _, _, h => nomatch h
  | .ref _ :: _, _, h => nomatch h
  | .tup _ :: _, _, h => nomatch h
  | .fl _ :: _, _, h => nomatch h
  | .sl _ :: _, _, h => nomatch h
  | .fd _ _ :: _, _, h => nomatch h
  | .raw _ :: _, _, h => nomatch h
theorem bls_of : ∀ {xs : List AV} {ns : List Bool}, bls? xs = some ns → xs = ns.map AV.bl
  | [], _, h => by cases h; rfl
  | .bl i :: xs, ns, h => by
    unfold bls? at h
    split at h
    · rename_i r e
      cases h
      rw [bls_of e]
      rfl
    · cases h
  | .non :: _, _, h => nomatch h
  | .int _ :: _, _, h => nomatch h
  | .str _ :: _, _, h => nomatch h
  | .ref _ :: _, _, h => nomatch h
  | .tup _ :: _, _, h => nomatch h
  | .fl _ :: _, _, h => nomatch h
  | .sl _ :: _, _, h => nomatch h
  | .fd _ _ :: _, _, h => nomatch h
  | .raw _ :: _, _, h => nomatch h
theorem strs_of : ∀ {xs : List AV} {ns : List Str}, strs? xs = some ns → xs = ns.map AV.str
  | [], _, h => by cases h; rfl
  | .str i :: xs, ns, h => by
    unfold strs? at h
    split at h
    · rename_i r e
      cases h
      rw [strs_of e]
      rfl
    · cases h
  | .non :: _, _, h => nomatch h
  | .int _ :: _, _, h => nomatch h
  | .bl _ :: _, _, h => nomatch h
  | .ref _ :: _, _, h => nomatch h
  | .tup _ :: _, _, h => nomatch h
  | .fl _ :: _, _, h => nomatch h
  | .sl _ :: _, _, h => nomatch h
  | .fd _ _ :: _, _, h => nomatch h
  | .raw _ :: _, _, h => nomatch h
theorem ints_map : ∀ ns : List Int, ints? (ns.map AV.int) = some ns
  | [] => rfl
  | n :: ns => by
    show (match ints? (ns.map AV.int) with
      | some r => some (n :: r)
      | none => none) = some (n :: ns)
    rw [ints_map ns]
theorem bls_map : ∀ ns : List Bool, bls? (ns.map AV.bl) = some ns
  | [] => rfl
  | n :: ns => by
    show (match bls? (ns.map AV.bl) with
      | some r => some (n :: r)
      | none => none) = some (n :: ns)
    rw [bls_map ns]
theorem strs_map : ∀ ns : List Str, strs? (ns.map AV.str) = some ns
  | [] => rfl
  | n :: ns => by
    show (match strs? (ns.map AV.str) with
      | some r => some (n :: r)
      | none => none) = some (n :: ns)
    rw [strs_map ns]
/-- sum, all, any of one list -/
def rList1 {α : Type} (f : List AV → Option α) (g : α → AV) : RA
  | [x], S, Q => match asL S x with
    | some xs => match f xs with
      | some a => Q (g a) S
      | none => False
    | none => False
  | _, _, _ => False
theorem rList1_of {α : Type} {f : List AV → Option α} {g : α → AV} {xs : List AV} {S : Sto} {Q : AQ} (h : rList1 f g xs S Q) : ∃ x ys a, xs = [x] ∧ asL S x = some ys ∧ f ys = some a ∧ Q (g a) S := by
  unfold rList1 at h
  split at h
  · split at h
    · split at h
      · exact ⟨_, _, _, rfl, by assumption, by assumption, h⟩
      · exact h.elim
    · exact h.elim
  · exact h.elim
abbrev rSumA : RA := rList1 ints? fun ns => .int ns.sum
abbrev rAllA : RA := rList1 bls? fun ns => .bl (ns.all id)
abbrev rAnyA : RA := rList1 bls? fun ns => .bl (ns.any id)
theorem cr_sumA {X : Cx} (hc : X.calm = true) : CallR X (.builtin "sum") (lRs X.K rSumA) := by
  intro pins s σ H xs us Q I r h
  obtain ⟨m, S, axs, QA, rS, hx, h, fin⟩ := h
  obtain ⟨x, ys, ns, rfl, e1, e2, q⟩ := rList1_of h
  obtain ⟨v, rfl, hx1⟩ := hx.one_of
  obtain ⟨a, vs, rfl, h2, _, h4⟩ := asL_rep rS hx1 e1
  rw [ints_of e2] at h4
  rw [h4.ints] at h2
  exact cr_sum hc pins s σ H _ us Q I r ⟨a, ns, rfl, h2, fin.here (z := .int ns.sum) rS rfl q⟩
theorem cr_allA {X : Cx} (hc : X.calm = true) : CallR X (.builtin "all") (lRs X.K rAllA) := by
  intro pins s σ H xs us Q I r h
  obtain ⟨m, S, axs, QA, rS, hx, h, fin⟩ := h
  obtain ⟨x, ys, ns, rfl, e1, e2, q⟩ := rList1_of h
  obtain ⟨v, rfl, hx1⟩ := hx.one_of
  obtain ⟨a, vs, rfl, h2, _, h4⟩ := asL_rep rS hx1 e1
  rw [bls_of e2] at h4
  rw [h4.bls] at h2
  exact cr_all hc pins s σ H _ us Q I r ⟨a, ns, rfl, h2, fin.here (z := .bl (ns.all id)) rS rfl q⟩
theorem cr_anyA {X : Cx} (hc : X.calm = true) : CallR X (.builtin "any") (lRs X.K rAnyA) := by
  intro pins s σ H xs us Q I r h
  obtain ⟨m, S, axs, QA, rS, hx, h, fin⟩ := h
  obtain ⟨x, ys, ns, rfl, e1, e2, q⟩ := rList1_of h
  obtain ⟨v, rfl, hx1⟩ := hx.one_of
  obtain ⟨a, vs, rfl, h2, _, h4⟩ := asL_rep rS hx1 e1
  rw [bls_of e2] at h4
  rw [h4.bls] at h2
  exact cr_any hc pins s σ H _ us Q I r ⟨a, ns, rfl, h2, fin.here (z := .bl (ns.any id)) rS rfl q⟩
/-- list(x), tuple(x) of a list or a tuple -/
def rListA (mu : Bool) : RA
  | [x], S, Q => match seqA S x with
    | some xs => aNew mu xs S Q
    | none => False
  | _, _, _ => False
def rTupA : RA
  | [x], S, Q => match seqA S x with
    | some xs => Q (.tup xs) S
    | none => False
  | _, _, _ => False
theorem rListA_of {mu : Bool} {xs : List AV} {S : Sto} {Q : AQ} (h : rListA mu xs S Q) : ∃ x ys, xs = [x] ∧ seqA S x = some ys ∧ aNew mu ys S Q := by
  unfold rListA at h
  split at h
  · split at h
    · exact ⟨_, _, rfl, by assumption, h⟩
    · exact h.elim
  · exact h.elim
theorem rTupA_of {xs : List AV} {S : Sto} {Q : AQ} (h : rTupA xs S Q) : ∃ x ys, xs = [x] ∧ seqA S x = some ys ∧ Q (.tup ys) S := by
  unfold rTupA at h
  split at h
  · split at h
    · exact ⟨_, _, rfl, by assumption, h⟩
    · exact h.elim
  · exact h.elim
theorem cr_listA {X : Cx} (mu : Bool) : CallR X (.type "list") (lRs X.K (rListA mu)) := by
  intro pins s σ H xs us Q I r h
  obtain ⟨m, S, axs, QA, rS, hx, h, fin⟩ := h
  obtain ⟨x, ys, ex, e, q⟩ := rListA_of h
  subst ex
  obtain ⟨v, ev, hx1⟩ := hx.one_of
  subst ev
  obtain ⟨a, vs, ea, h2, hz, h4⟩ := seqA_rep rS hx1 e
  subst ea
  exact call_list_of pins s σ H _ us Q I r ⟨a, vs, rfl, h2, fun l hl => fin.new rS h4 hz q hl⟩
theorem cr_tupA {X : Cx} : CallR X (.type "tuple") (lRs X.K rTupA) := by
  intro pins s σ H xs us Q I r h
  obtain ⟨m, S, axs, QA, rS, hx, h, fin⟩ := h
  obtain ⟨x, ys, ex, e, q⟩ := rTupA_of h
  subst ex
  obtain ⟨v, ev, hx1⟩ := hx.one_of
  subst ev
  have tupc : ∀ zs, x = .tup zs → wpAny (model X.prog X.w) X.A (call (.type "tuple") us) (EP X pins σ Q) X.xe s := fun zs ez => by
    subst ez
    have e : zs = ys := Option.some.inj e
    subst e
    obtain ⟨a, vs, ea, h1, hz, h2⟩ := hx1
    subst ea
    exact call_tuple_of pins s σ H _ us Q I r ⟨a, vs, rfl, .inr ⟨h1.seq, fin.here (z := .tup zs) rS ⟨a, vs, rfl, h1, hz, h2⟩ q⟩⟩
  have lstc : asL S x = some ys → wpAny (model X.prog X.w) X.A (call (.type "tuple") us) (EP X pins σ Q) X.xe s := fun e => by
    obtain ⟨a, vs, ea, h2, hz, h4⟩ := asL_rep rS hx1 e
    subst ea
    exact call_tuple_of pins s σ H _ us Q I r ⟨a, vs, rfl, .inl ⟨h2, fun l hl => fin.newT rS h4 hz q hl⟩⟩
  cases x with
  | tup zs => exact tupc zs rfl
  | _ => exact lstc e
/-- sep.join(..) -/
def rJoinA (x : AV) (xs : List AV) (S : Sto) (Q : AQ) : Prop := match x, xs with
  | .str a, [y] => match seqA S y with
    | some ys => match strs? ys with
      | some zs => (zs.map (·.length)).sum + zs.length * a.length ≤ 16777216 ∧ Q (.str (Txt.join a zs)) S
      | none => False
    | none => False
  | _, _ => False
/-- x.m(..), a method of a built-in type, by values -/
abbrev RM := AV → List AV → Sto → AQ → Prop
def lRm (K : PySem.W.Frag) (r : RM) : V → List V → Hp → VK → Prop := fun x xs H Q => ∃ m S ax axs QA, RepS K H m S ∧ RepV K H m ax x ∧ RepVs K H m axs xs ∧ r ax axs S QA ∧ Fin K H m QA Q
def aMt (r : RM) (to : ATE) (t : ATA) : ATE := fun ρ S Q => to ρ S fun x S1 => t ρ S1 fun xs S2 => r x xs S2 Q
theorem rJoinA_of {x : AV} {xs : List AV} {S : Sto} {Q : AQ} (h : rJoinA x xs S Q) : ∃ a y ys zs, x = .str a ∧ xs = [y] ∧ seqA S y = some ys ∧ strs? ys = some zs ∧ ((zs.map (·.length)).sum + zs.length * a.length ≤ 16777216 ∧ Q (.str (Txt.join a zs)) S) := by
  unfold rJoinA at h
  split at h
  · split at h
    · split at h
      · exact ⟨_, _, _, _, rfl, rfl, by assumption, by assumption, h⟩
      · exact h.elim
    · exact h.elim
  · exact h.elim
theorem mt_joinA {X : Cx} : MtR X "str.join" (lRm X.K rJoinA) := by
  intro pins s σ H x xs v us Q I rx rs h
  obtain ⟨m, S, ax, axs, QA, rS, hx, hxs, h, fin⟩ := h
  obtain ⟨a, y, ys, zs, ea, ey, e1, e2, hz, q⟩ := rJoinA_of h
  subst ea; subst ey
  obtain ⟨w, ew, hy⟩ := hxs.one_of
  subst ew
  obtain ⟨p, vs, ep, h2, _, h4⟩ := seqA_rep rS hy e1
  subst ep
  rw [strs_of e2] at h4
  rw [h4.strs] at h2
  exact mt_join pins s σ H x _ v us Q I rx rs ⟨a, p, zs, hx, rfl, h2, hz, fin.here (z := .str (Txt.join a zs)) rS rfl q⟩
end HA

/-! Layer A, part 4: statements, targets, loops, comprehensions, a def's promise. -/
namespace HA
open PySem PySem.Spec PyProof.Rows L2

/-! ### statements -/
def aNext : ATS := fun D ρ S => D.nx ρ S
def aSeq (t u : ATS) : ATS := fun D ρ S => t { nx := u D, rt := D.rt, bk := D.bk, ct := D.ct } ρ S
def aBreak : ATS := fun D ρ S => D.bk ρ S
def aCont : ATS := fun D ρ S => D.ct ρ S
def aDrop (te : ATE) : ATS := fun D ρ S => te ρ S fun _ S1 => D.nx ρ S1
def aRet (te : ATE) : ATS := fun D ρ S => te ρ S D.rt
def aRetN : ATS := fun D _ S => D.rt .non S
def aIf (c : ATT) (t u : ATS) : ATS := fun D ρ S => c ρ S fun b S1 => match b with
  | true => t D ρ S1
  | false => u D ρ S1
def aNever : ATS := fun _ _ _ => False
def aSet (i : Nat) (te : ATE) : ATS := fun D ρ S => te ρ S fun x S1 => D.nx (ρ.set i (some x)) S1
section
variable {X : Cx} {st : Stmt} {rest a b : List Stmt} {t u : ATS} {e c : Expr} {te : ATE} {tc : ATT} {pos : Pos}
theorem ss_nil : SSs X [] aNext := PSs.imp pss_nil fun D σ H h => by
  obtain ⟨m, S, ρ, DA, rS, rE, h, d⟩ := h
  exact d.nx H m S ρ σ (.refl _ _) rS rE h
theorem ss_pass : SS X (.Pass pos) aNext := PS.imp ps_pass fun D σ H h => by
  obtain ⟨m, S, ρ, DA, rS, rE, h, d⟩ := h
  exact d.nx H m S ρ σ (.refl _ _) rS rE h
theorem ss_doc {x j pos'} : SS X (.Expr (.Constant (.str x) j pos) pos') aNext := PS.imp ps_doc fun D σ H h => by
  obtain ⟨m, S, ρ, DA, rS, rE, h, d⟩ := h
  exact d.nx H m S ρ σ (.refl _ _) rS rE h
theorem ss_break : SS X (.Break pos) aBreak := PS.imp ps_break fun D σ H h => by
  obtain ⟨m, S, ρ, DA, rS, rE, h, d⟩ := h
  exact d.bk H m S ρ σ (.refl _ _) rS rE h
theorem ss_cont : SS X (.Continue pos) aCont := PS.imp ps_continue fun D σ H h => by
  obtain ⟨m, S, ρ, DA, rS, rE, h, d⟩ := h
  exact d.ct H m S ρ σ (.refl _ _) rS rE h
theorem ss_cons (h1 : SS X st t) (h2 : SSs X rest u) : SSs X (st :: rest) (aSeq t u) := PSs.imp (pss_cons h1 h2) fun D σ H h => by
  obtain ⟨m, S, ρ, DA, rS, rE, h, d⟩ := h
  refine ⟨m, S, ρ, _, rS, rE, h, ⟨fun H' m' S' ρ' σ' s r1 r2 q => ?_, d.rt, d.bk, d.ct⟩⟩
  exact ⟨m', S', ρ', DA, r1, r2, q, d.stp s⟩
theorem ss_one (h1 : SS X st t) : SSs X [st] t := pss_one h1
theorem ss_expr (he : SE X e te) (hs : swapsWith e none pos.line X.env = pure false := by rfl) : SS X (.Expr e pos) (aDrop te) := PS.imp (ps_expr he hs) fun D σ H h => by
  obtain ⟨m, S, ρ, DA, rS, rE, h, d⟩ := h
  exact ⟨m, S, ρ, _, rS, rE, h, fun H1 m1 S1 x v s1 rS1 rv1 q1 => d.nx H1 m1 S1 ρ σ s1 rS1 (rE.stp s1) q1⟩
theorem ss_ret (he : SE X e te) : SS X (.Return (some e) pos) (aRet te) := PS.imp (ps_ret he) fun D σ H h => by
  obtain ⟨m, S, ρ, DA, rS, rE, h, d⟩ := h
  exact ⟨m, S, ρ, _, rS, rE, h, d.rt⟩
theorem ss_retN : SS X (.Return none pos) aRetN := PS.imp ps_retN fun D σ H h => by
  obtain ⟨m, S, ρ, DA, rS, rE, h, d⟩ := h
  exact d.rt H m S .non .non (.refl _ _) rS rfl h
theorem ss_if (hc : ST X c tc) (ha : SSs X a t) (hb : SSs X b u) : SS X (.If c a b pos) (aIf tc t u) := PS.imp (ps_if hc ha hb) fun D σ H h => by
  obtain ⟨m, S, ρ, DA, rS, rE, h, d⟩ := h
  refine ⟨m, S, ρ, _, rS, rE, h, fun H1 m1 S1 b s1 rS1 q1 => ?_⟩
  cases b with
  | true => exact iteT ⟨m1, S1, ρ, DA, rS1, rE.stp s1, q1, d.stp s1⟩
  | false => exact iteF ⟨m1, S1, ρ, DA, rS1, rE.stp s1, q1, d.stp s1⟩
theorem ss_never : SS X st aNever := PS.imp ps_never fun D σ H h => by
  obtain ⟨m, S, ρ, DA, rS, rE, h, d⟩ := h
  exact h.elim
theorem ss_set {i : Nat} {x : Str} {pos' : Pos} (hN : X.N.Nodup) (hi : X.N[i]? = some x) (hx : Loc X.env.scope x) (he : SE X e te) (hs : swapsWith e (some (.Name x pos')) pos.line X.env = pure false := by rfl) (hf : X.fn x = true ∨ X.env.scope.names.lookup x = some .local := by first | exact .inl rfl | exact .inr rfl | assumption) :
    SS X (.Assign [.Name x pos'] e pos) (aSet i te) := PS.imp (ps_set hN hi hx he hs hf) fun D σ H h => by
  obtain ⟨m, S, ρ, DA, rS, rE, h, d⟩ := h
  exact ⟨m, S, ρ, _, rS, rE, h, fun H1 m1 S1 x v s1 rS1 rv1 q1 => d.nx H1 m1 S1 _ _ s1 rS1 ((rE.stp s1).set i rv1) q1⟩
end
/-- name op= e -/
def aAug (i : Nat) (r : R2A) (te : ATE) : ATS := fun D ρ S => match ρ[i]? with
  | some (some x) => te ρ S fun y S1 => r x y S1 fun z S2 => D.nx (ρ.set i (some z)) S2
  | _ => False
theorem ss_aug {X : Cx} {i : Nat} {x : Str} {e : Expr} {te : ATE} {op : Operator} {r : R2A} {pos pos' : Pos} (hN : X.N.Nodup) (hi : X.N[i]? = some x) (hx : Loc X.env.scope x) (he : SE X e te) (ho : OpR X (inplaceOp op) (lR2 X.K r)) (hf : X.fn x = true ∨ X.env.scope.names.lookup x = some .local := by first | exact .inl rfl | exact .inr rfl | assumption) :
    SS X (.AugAssign (.Name x pos') op e pos) (aAug i r te) := by
  refine PS.imp (ps_aug (ti := lR2 X.K r) hN hi hx he (fun pins s σ H x y v u Q I r1 r2 h => ho pins s σ H x y v u Q I r1 r2 h) hf) fun D σ H h => ?_
  obtain ⟨m, S, ρ, DA, rS, rE, h, d⟩ := h
  unfold aAug at h
  split at h
  · rename_i z e1
    obtain ⟨v, h1, h2⟩ := rE.at_ i z e1
    refine ⟨v, h1, m, S, ρ, _, rS, rE, h, fun H1 m1 S1 y u s1 rS1 rv1 q1 => ?_⟩
    exact ⟨m1, S1, z, y, _, rS1, h2.stp s1, rv1, q1, fun H2 m2 S2 w w' s2 rS2 rv2 q2 => d.nx H2 m2 S2 _ _ (s1.trans s2) rS2 ((rE.stp (s1.trans s2)).set i rv2) q2⟩
  · exact h.elim
theorem iop_addI {X : Cx} : OpR X (inplaceOp .Add) (lR2 X.K (rI (fun _ _ => True) fun i j => .int (i + j))) := opI0_A iop_add fun _ _ _ _ _ => rfl

/-! ### targets -/
abbrev ATG := AV → AEnv → Sto → (AEnv → Sto → Prop) → Prop
abbrev ATGs := List AV → AEnv → Sto → (AEnv → Sto → Prop) → Prop
def SameB (vs : List Nat) (σ σ' : L2.St) : Prop := σ'.length = σ.length ∧ ∀ i, i ∉ vs → σ'[i]? = σ[i]?
def lG (K : PySem.W.Frag) (g : ATG) (vs : List Nat) : TG := fun v σ H Q => ∃ m S ρ x QA, RepS K H m S ∧ RepE K H m ρ σ ∧ RepV K H m x v ∧ g x ρ S QA ∧
  ∀ H' m' S' ρ' σ', Stp H m H' m' → RepS K H' m' S' → RepE K H' m' ρ' σ' → SameB vs σ σ' → QA ρ' S' → Q σ' H'
def lGs (K : PySem.W.Frag) (g : ATGs) (vs : List Nat) : TGs := fun us σ H Q => ∃ m S ρ xs QA, RepS K H m S ∧ RepE K H m ρ σ ∧ RepVs K H m xs us ∧ g xs ρ S QA ∧
  ∀ H' m' S' ρ' σ', Stp H m H' m' → RepS K H' m' S' → RepE K H' m' ρ' σ' → SameB vs σ σ' → QA ρ' S' → Q σ' H'
structure SG (X : Cx) (tg : Expr) (g : ATG) (vs : List Nat) : Prop where
  run : PG X tg (lG X.K g vs)
  ex : ∀ x ρ S Q, g x ρ S Q → ∃ ρ' S', Q ρ' S'
structure SGs (X : Cx) (tgs : List Expr) (g : ATGs) (vs : List Nat) (n : Nat) : Prop where
  run : PGs X tgs (lGs X.K g vs)
  len : ∀ xs ρ S Q, g xs ρ S Q → xs.length = n ∧ ∃ ρ' S', Q ρ' S'
def gNm (i : Nat) : ATG := fun x ρ S Q => Q (ρ.set i (some x)) S
def gsNil : ATGs := fun xs ρ S Q => match xs with
  | [] => Q ρ S
  | _ => False
def gsCons (g : ATG) (gs : ATGs) : ATGs := fun xs ρ S Q => match xs with
  | x :: r => g x ρ S fun ρ1 S1 => gs r ρ1 S1 Q
  | _ => False
def gTp (gs : ATGs) : ATG := fun x ρ S Q => match x with
  | .tup xs => gs xs ρ S Q
  | _ => False
section
variable {X : Cx} {pos : Pos}
theorem PGs.imp {e : List Expr} {t t' : TGs} (h : PGs X e t) (i : ∀ v σ H Q, t' v σ H Q → t v σ H Q) : PGs X e t' := ⟨fun pins s σ H v u Q I r q => h.run pins s σ H v u Q I r (i v σ H Q q)⟩
theorem sg_name {i : Nat} {x : Str} (hN : X.N.Nodup) (hi : X.N[i]? = some x) (hx : Loc X.env.scope x) (hf : X.fn x = true ∨ X.env.scope.names.lookup x = some .local := by first | exact .inl rfl | exact .inr rfl | assumption) : SG X (.Name x pos) (gNm i) [i] := by
  refine ⟨PG.imp (pg_name hN hi hx hf) fun v σ H Q h => ?_, fun x ρ S Q h => ⟨_, _, h⟩⟩
  · obtain ⟨m, S, ρ, x, QA, rS, rE, rv, h, fin⟩ := h
    refine fin H m S _ _ (.refl _ _) rS (rE.set i rv) ⟨by rw [List.length_set], fun j hj => ?_⟩ h
    rw [List.getElem?_set_ne (fun z => hj (by rw [z]; exact List.mem_singleton.mpr rfl))]
theorem sgs_nil : SGs X [] gsNil [] 0 := by
  refine ⟨PGs.imp pgs_nil fun v σ H Q h => ?_, fun xs ρ S Q h => ?_⟩
  · obtain ⟨m, S, ρ, xs, QA, rS, rE, rv, h, fin⟩ := h
    cases xs with
    | nil => exact ⟨rv, fin H m S ρ σ (.refl _ _) rS rE ⟨rfl, fun _ _ => rfl⟩ h⟩
    | cons x r => exact (show False from h).elim
  · cases xs with
    | nil => exact ⟨rfl, _, _, h⟩
    | cons x r => exact (show False from h).elim
theorem sgs_cons {e : Expr} {es : List Expr} {g : ATG} {gs : ATGs} {vs ws : List Nat} {n : Nat} (h1 : SG X e g vs) (h2 : SGs X es gs ws n)
    (hs : (assignEach (e :: es) X.env).map (·.2) = assign e X.env :: (assignEach es X.env).map (·.2) := by rfl) : SGs X (e :: es) (gsCons g gs) (vs ++ ws) (n + 1) := by
  refine ⟨PGs.imp (pgs_cons h1.run h2.run hs) fun v σ H Q h => ?_, fun xs ρ S Q h => ?_⟩
  · obtain ⟨m, S, ρ, xs, QA, rS, rE, rv, h, fin⟩ := h
    cases xs with
    | nil => exact (show False from h).elim
    | cons x r =>
      obtain ⟨u, us, rfl, r1, r2⟩ := rv
      refine ⟨u, us, rfl, m, S, ρ, x, _, rS, rE, r1, h, fun H1 m1 S1 ρ1 σ1 s1 rS1 rE1 b1 q1 => ?_⟩
      refine ⟨m1, S1, ρ1, r, QA, rS1, rE1, RepVs.stp s1 _ _ r2, q1, fun H2 m2 S2 ρ2 σ2 s2 rS2 rE2 b2 q2 => ?_⟩
      refine fin H2 m2 S2 ρ2 σ2 (s1.trans s2) rS2 rE2 ⟨b2.1.trans b1.1, fun i hi => ?_⟩ q2
      rw [List.mem_append, not_or] at hi
      exact (b2.2 i hi.2).trans (b1.2 i hi.1)
  · cases xs with
    | nil => exact (show False from h).elim
    | cons x r =>
      obtain ⟨ρ1, S1, h⟩ := h1.ex _ _ _ _ h
      obtain ⟨e1, h⟩ := h2.len _ _ _ _ h
      exact ⟨by rw [List.length_cons, e1], h⟩
theorem sg_tup {es : List Expr} {k : Nat} {gs : ATGs} {n : Nat} {vs : List Nat} (hc : X.calm = true) (h : SGs X es gs vs n)
    (hn : (assignEach es X.env).length = n := by rfl) (hst : (assignEach es X.env).findIdx? (·.1) = none := by rfl) : SG X (.Tuple es k pos) (gTp gs) vs := by
  refine ⟨PG.imp (pg_tup hc h.run hn hst) fun v σ H Q hh => ?_, fun x ρ S Q hh => ?_⟩
  · obtain ⟨m, S, ρ, x, QA, rS, rE, rv, hh, fin⟩ := hh
    unfold gTp at hh
    split at hh
    · rename_i xs
      obtain ⟨a, vs, e1, h1, hz, h2⟩ := rv
      exact ⟨a, vs, e1, h1.seq, by rw [← h2.length]; exact (h.len _ _ _ _ hh).1, m, S, ρ, xs, QA, rS, rE, h2, hh, fin⟩
    · exact hh.elim
  · unfold gTp at hh
    split at hh
    · exact (h.len _ _ _ _ hh).2
    · exact hh.elim
/-- target = value -/
def aAsg (te : ATE) (g : ATG) : ATS := fun D ρ S => te ρ S fun x S1 => g x ρ S1 D.nx
theorem ss_asg {tg e : Expr} {te : ATE} {g : ATG} {vs : List Nat} (he : SE X e te) (hg : SG X tg g vs) (hs : swapsWithSole [tg] e pos.line X.env = pure false := by rfl) (hw : swappedStores [tg] e X.env = pure none := by rfl)
    (h1 : (assignEach [tg] X.env).map (·.2) = [assign tg X.env] := by rfl) : SS X (.Assign [tg] e pos) (aAsg te g) := PS.imp (ps_asg he hg.run hs hw h1) fun D σ H h => by
  obtain ⟨m, S, ρ, DA, rS, rE, h, d⟩ := h
  refine ⟨m, S, ρ, _, rS, rE, h, fun H1 m1 S1 x v s1 rS1 rv1 q1 => ?_⟩
  exact ⟨m1, S1, ρ, x, DA.nx, rS1, rE.stp s1, rv1, q1, fun H' m' S' ρ' σ' s2 r2 e2 _ q2 => d.nx H' m' S' ρ' σ' (s1.trans s2) r2 e2 q2⟩
/-- o[i] = v -/
abbrev ASet := AV → AV → AV → Sto → (Sto → Prop) → Prop
def lSet (K : PySem.W.Frag) (r : ASet) : TSet := fun o i v H Q => ∃ m S ao ai av QA, RepS K H m S ∧ RepV K H m ao o ∧ RepV K H m ai i ∧ RepV K H m av v ∧ r ao ai av S QA ∧ ∀ H' m' S', Stp H m H' m' → RepS K H' m' S' → QA S' → Q H'
def aSetIx (te to ti : ATE) (r : ASet) : ATS := fun D ρ S => te ρ S fun x S1 => to ρ S1 fun o S2 => ti ρ S2 fun i S3 => r o i x S3 fun S4 => D.nx ρ S4
theorem ss_setIx {o i e : Expr} {te to ti : ATE} {r : ASet} {k : Pos} (he : SE X e te) (ho : SE X o to) (hi : SE X i ti) (hp : PSet X (lSet X.K r))
    (hs : swapsWithSole [.Subscript o i k] e pos.line X.env = pure false := by rfl) (hw : swappedStores [.Subscript o i k] e X.env = pure none := by rfl)
    (h1 : (assignEach [.Subscript o i k] X.env).map (·.2) = [assign (.Subscript o i k) X.env] := by rfl)
    (ha : ∀ v, assign (.Subscript o i k) X.env v = (do
      let ov ← holding [v] (eval o X.env)
      let iv ← holding [v, ov] (eval i X.env)
      standAt k
      holding [v, ov, iv] (setItem ov iv v)
      release [v, ov, iv] []) := by intro _; rfl) : SS X (.Assign [.Subscript o i k] e pos) (aSetIx te to ti r) := PS.imp (ps_asg he (pg_sub ho hi hp ha) hs hw h1) fun D σ H h => by
  obtain ⟨m, S, ρ, DA, rS, rE, h, d⟩ := h
  refine ⟨m, S, ρ, _, rS, rE, h, fun H1 m1 S1 x v s1 rS1 rv1 q1 => ?_⟩
  refine ⟨m1, S1, ρ, _, rS1, rE.stp s1, q1, fun H2 m2 S2 y u s2 rS2 rv2 q2 => ?_⟩
  refine ⟨m2, S2, ρ, _, rS2, rE.stp (s1.trans s2), q2, fun H3 m3 S3 z w s3 rS3 rv3 q3 => ?_⟩
  exact ⟨m3, S3, y, z, x, _, rS3, rv2.stp s3, rv3, rv1.stp (s2.trans s3), q3, fun H' m' S' s4 r4 q4 => d.nx H' m' S' ρ σ (((s1.trans s2).trans s3).trans s4) r4 (rE.stp (((s1.trans s2).trans s3).trans s4)) q4⟩
def rSetLA : ASet := fun o i x S Q => match o, i with
  | .ref n, .int k => match S[n]? with
    | some (.lst xs) => match ixN xs.length k with
      | some j => Q (S.set n (.lst (xs.set j x)))
      | none => False
    | _ => False
  | _, _ => False
theorem rSetLA_of {o i x : AV} {S : Sto} {Q : Sto → Prop} (h : rSetLA o i x S Q) : ∃ n k xs j, o = .ref n ∧ i = .int k ∧ S[n]? = some (.lst xs) ∧ ixN xs.length k = some j ∧ Q (S.set n (.lst (xs.set j x))) := by
  unfold rSetLA at h
  split at h
  · split at h
    · split at h
      · exact ⟨_, _, _, _, rfl, rfl, by assumption, by assumption, h⟩
      · exact h.elim
    · exact h.elim
  · exact h.elim
theorem set_listA : PSet X (lSet X.K rSetLA) := by
  intro pins s σ H o i v ov iv u Q I r1 r2 r3 h
  obtain ⟨m, S, ao, ai, av, QA, rS, ho, hi, hv, h, fin⟩ := h
  obtain ⟨n, k, xs, j, e1, e2, e3, e4, q⟩ := rSetLA_of h
  subst e1; subst e2
  obtain ⟨a, ha, hc⟩ := rS.ix e3
  obtain ⟨a', ha', eo⟩ := ho
  rw [ha] at ha'
  cases ha'
  obtain ⟨vs, h1, h2, h3⟩ := hc
  have l := h3.length
  refine set_list pins s σ H o i v ov iv u Q I r1 r2 r3 ⟨a, vs, k, j, eo, hi, h1, by rw [← l]; exact e4, ?_⟩
  have st : Stp H m (upd H a (.lst (vs.set j v))) m := stp_set ha
  refine fin _ m _ st (rS.set (c := .lst (xs.set j av)) ha ⟨_, upd_same, by rw [List.length_set]; exact h2, ?_⟩) q
  exact (RepVs.stp st _ _ h3).set (hv.stp st) j
end

/-! ### what is walked -/
/-- a walk gives the items xs, one a turn, so long as GA holds of the store -/
structure WalkA (K : PySem.W.Frag) (J : It) (xs : List AV) (GA : Sto → Prop) (H0 : Hp) (m0 : MM) : Prop where
  len : xs.length ≤ sizeLine
  go : ∀ i H m S, i < xs.length → Stp H0 m0 H m → RepS K H m S → GA S → J.go i H
  stop : ∀ H m S, Stp H0 m0 H m → RepS K H m S → GA S → J.stop xs.length H
  yld : ∀ i H m S x H', i < xs.length → Stp H0 m0 H m → RepS K H m S → GA S → J.yld i H x H' → Stp H m H' m ∧ RepS K H' m S ∧ ∃ y, xs[i]? = some y ∧ RepV K H' m y x
abbrev ATI := AEnv → Sto → (List AV → (Sto → Prop) → Sto → Prop) → Prop
def lI (K : PySem.W.Frag) (t : ATI) : TI := fun σ H R => ∃ m S ρ QA, RepS K H m S ∧ RepE K H m ρ σ ∧ t ρ S QA ∧
  ∀ H' m' S' xs GA J, Stp H m H' m' → RepS K H' m' S' → WalkA K J xs GA H' m' → QA xs GA S' → R J H'
def SI (X : Cx) (tg e : Expr) (t : ATI) : Prop := PI X tg e (lI X.K t)
def forA (GA : Sto → Prop) (g : ATG) (tb : ATS) : List AV → ATS
  | [], D, ρ, S => GA S ∧ D.nx ρ S
  | x :: xs, D, ρ, S => GA S ∧ g x ρ S fun ρ1 S1 => tb { nx := forA GA g tb xs D, rt := D.rt, bk := D.nx, ct := forA GA g tb xs D } ρ1 S1
def aFor (ti : ATI) (g : ATG) (tb : ATS) : ATS := fun D ρ S => ti ρ S fun xs GA S1 => forA GA g tb xs D ρ S1
theorem drop_cons {α : Type} {xs : List α} {i : Nat} (h : i < xs.length) : xs.drop i = xs[i] :: xs.drop (i + 1) := List.drop_eq_getElem_cons h
section
variable {X : Cx} {tg iter : Expr} {body : List Stmt} {ti : ATI} {g : ATG} {tb : ATS} {vs : List Nat} {pos : Pos}
theorem ss_for (hp : PassesOwn (model X.prog X.w) X.A X.env X.xe) (hc : X.calm = true) (hi : SI X tg iter ti) (hg : SG X tg g vs) (hb : SSs X body tb)
    (hs : ∀ x, foldedSetIterable iter X.env x = pure x := by intro _; rfl) : SS X (.For tg iter body [] pos) (aFor ti g tb) := PS.imp (ps_for hp hc hi hg.run hb hs) fun D σ H h => by
  obtain ⟨m, S, ρ, DA, rS, rE, h, d⟩ := h
  refine ⟨m, S, ρ, _, rS, rE, h, fun H1 m1 S1 xs GA J s1 rS1 wA q1 => ?_⟩
  refine ⟨fun i k σ' H' => k = xs.length - i ∧ i ≤ xs.length ∧ ∃ m' S' ρ', Stp H1 m1 H' m' ∧ RepS X.K H' m' S' ∧ RepE X.K H' m' ρ' σ' ∧ forA GA g tb (xs.drop i) DA ρ' S',
    ⟨xs.length, rfl, Nat.zero_le _, m1, S1, ρ, .refl _ _, rS1, rE.stp s1, q1⟩, ?_⟩
  rintro i k σ' H' ⟨rfl, hi, m', S', ρ', st, rS', rE', q⟩
  by_cases hlt : i < xs.length
  · rw [drop_cons hlt] at q
    obtain ⟨qg, q⟩ := q
    refine .inr ⟨wA.go i H' m' S' hlt st rS' qg, fun σ2 H2 => ∃ m2 S2 ρ2, Stp H1 m1 H2 m2 ∧ RepS X.K H2 m2 S2 ∧ RepE X.K H2 m2 ρ2 σ2 ∧ forA GA g tb (xs.drop (i + 1)) DA ρ2 S2,
      fun σ2 H2 hn => ⟨xs.length - (i + 1), by omega, rfl, hlt, hn⟩, fun x H2 hy => ?_⟩
    obtain ⟨sy, ry, y, ey, vy⟩ := wA.yld i H' m' S' x H2 hlt st rS' qg hy
    rw [List.getElem?_eq_getElem hlt] at ey
    cases ey
    refine ⟨m', S', ρ', _, _, ry, rE'.stp sy, vy, q, fun H3 m3 S3 ρ3 σ3 s3 rS3 rE3 _ q3 => ?_⟩
    have st3 : Stp H1 m1 H3 m3 := (st.trans sy).trans s3
    refine ⟨m3, S3, ρ3, _, rS3, rE3, q3, ⟨fun H4 m4 S4 ρ4 σ4 s4 rS4 rE4 q4 => ⟨m4, S4, ρ4, st3.trans s4, rS4, rE4, q4⟩, fun H4 m4 S4 x4 v4 s4 => d.rt H4 m4 S4 x4 v4 ((s1.trans st3).trans s4),
      fun H4 m4 S4 ρ4 σ4 s4 => d.nx H4 m4 S4 ρ4 σ4 ((s1.trans st3).trans s4), fun H4 m4 S4 ρ4 σ4 s4 rS4 rE4 q4 => ⟨m4, S4, ρ4, st3.trans s4, rS4, rE4, q4⟩⟩⟩
  · have e : i = xs.length := by omega
    subst e
    rw [List.drop_length] at q
    exact .inl ⟨wA.stop H' m' S' st rS' q.1, d.nx H' m' S' ρ' σ' (s1.trans st) rS' rE' q.2⟩
/-- while -/
def whA (c : ATT) (tb : ATS) : Nat → ATS
  | 0, _, _, _ => False
  | n + 1, D, ρ, S => c ρ S fun b S1 => match b with
    | true => tb { nx := whA c tb n D, rt := D.rt, bk := D.nx, ct := whA c tb n D } ρ S1
    | false => D.nx ρ S1
def aWhile (c : ATT) (tb : ATS) : ATS := fun D ρ S => ∃ n, whA c tb n D ρ S
theorem ss_while {c : Expr} {tc : ATT} (hp : PassesOwn (model X.prog X.w) X.A X.env X.xe) (hc : ST X c tc) (hb : SSs X body tb) : SS X (.While c body [] pos) (aWhile tc tb) := PS.imp (ps_while hp hc hb) fun D σ H h => by
  obtain ⟨m, S, ρ, DA, rS, rE, ⟨n, h⟩, d⟩ := h
  refine ⟨fun k σ' H' => ∃ m' S' ρ', Stp H m H' m' ∧ RepS X.K H' m' S' ∧ RepE X.K H' m' ρ' σ' ∧ whA tc tb k DA ρ' S', ⟨n, m, S, ρ, .refl _ _, rS, rE, h⟩, ?_⟩
  rintro k σ' H' ⟨m', S', ρ', st, rS', rE', q⟩
  cases k with
  | zero => exact q.elim
  | succ k =>
    refine ⟨m', S', ρ', _, rS', rE', q, fun H1 m1 S1 b s1 rS1 q1 => ?_⟩
    cases b with
    | false => exact iteF (d.nx H1 m1 S1 ρ' σ' (st.trans s1) rS1 (rE'.stp s1) q1)
    | true =>
      refine iteT ⟨fun σ2 H2 => ∃ m2 S2 ρ2, Stp H m H2 m2 ∧ RepS X.K H2 m2 S2 ∧ RepE X.K H2 m2 ρ2 σ2 ∧ whA tc tb k DA ρ2 S2, fun σ2 H2 hn => ⟨k, Nat.lt_succ_self k, hn⟩, ?_⟩
      have st1 := st.trans s1
      exact ⟨m1, S1, ρ', _, rS1, rE'.stp s1, q1, ⟨fun H4 m4 S4 ρ4 σ4 s4 rS4 rE4 q4 => ⟨m4, S4, ρ4, st1.trans s4, rS4, rE4, q4⟩, fun H4 m4 S4 x4 v4 s4 => d.rt H4 m4 S4 x4 v4 (st1.trans s4),
        fun H4 m4 S4 ρ4 σ4 s4 => d.nx H4 m4 S4 ρ4 σ4 (st1.trans s4), fun H4 m4 S4 ρ4 σ4 s4 rS4 rE4 q4 => ⟨m4, S4, ρ4, st1.trans s4, rS4, rE4, q4⟩⟩⟩
end
end HA

/-! Layer A, part 5: walks, comprehensions, methods of lists, a def's promise. -/
namespace HA
open PySem PySem.Spec PyProof.Rows L2

/-! ### walks -/
def aWalk (xs : List AV) (GA : Sto → Prop) (S : Sto) (R : List AV → (Sto → Prop) → Sto → Prop) : Prop := R xs GA S
/-- a tuple, a list: a cell is walked so long as it stands as it is -/
def guardA : AV → List AV → Sto → Prop
  | .ref n, xs, S => S[n]? = some (.lst xs)
  | _, _, _ => True
def aIter (t : ATE) : ATI := fun ρ S R => t ρ S fun x S1 => match seqA S1 x with
  | some xs => R xs (guardA x xs) S1
  | none => match x with
    | .str z => z.cps.size ≤ sizeLine ∧ R (z.cps.toList.map fun c => .str ⟨#[c]⟩) (fun _ => True) S1
    | _ => False
def iSeq (K : PySem.W.Frag) (tl : TE) : TI := fun σ H R => tl σ H fun x H1 => (∃ a xs, x = .ref a ∧ SqL K H1 a xs ∧ R (Itl K a) H1) ∨ (∃ a xs, x = .ref a ∧ SqT K H1 a xs ∧ R (Itt K a) H1) ∨ ∃ z, x = .str z ∧ R (Its z) H1
theorem pi_seq {X : Cx} {tg l : Expr} {tl : TE} (hl : PE X l tl) : PI X tg l (iSeq X.K tl) := by
  refine ⟨fun pins s σ H R I h => ?_⟩
  refine thn (hl.run pins s σ H _ I h) fun v s1 ⟨x, H1, I1, r1, q1⟩ => ?_
  rcases q1 with ⟨a, xs, e, hq, q⟩ | ⟨a, xs, e, hq, q⟩ | ⟨z, e, q⟩
  · subst e
    cases r1
    obtain ⟨its, rv, p, hz⟩ := I1.list hq
    refine wpAny_pyIter_list p.isList ?_
    refine ⟨s1.heap.objs.size, [s1.heap.objs.size], _, _, H1, rfl, I1.kept (t' := s1.toks) fun b o e => Heap.get?_push_of_some _ e, turn_list a _, ⟨_, Heap.get?_push_size _ rfl, rfl, rfl⟩, fun b hb => ?_, q⟩
    have e : b = s1.heap.objs.size := by simpa using hb
    subst e
    exact I1.fpOk (Nat.le_refl _) (I1.hok.fresh (Nat.le_refl _))
  · subst e
    cases r1
    obtain ⟨its, rv, p, hz⟩ := I1.tuple hq
    refine wpAny_pyIter_tuple (show s1.heap.IsTuple a its.toArray from p) ?_
    refine ⟨s1.heap.objs.size, [s1.heap.objs.size], _, _, H1, rfl, I1.kept (t' := s1.toks) fun b o e => Heap.get?_push_of_some _ e, turn_tuple a _, ⟨_, Heap.get?_push_size _ rfl, rfl, rfl⟩, fun b hb => ?_, q⟩
    have e : b = s1.heap.objs.size := by simpa using hb
    subst e
    exact I1.fpOk (Nat.le_refl _) (I1.hok.fresh (Nat.le_refl _))
  · subst e
    obtain ⟨t, rfl⟩ := r1
    cases ha : z.cps.all (· < 128)
    · exact wpAny_pyIter_wide ha (pi_one (tk := s1.toks) I1 _ (turn_str _ z t "str_iterator" (.inr rfl)) ⟨_, Heap.get?_push_size _ rfl, rfl, rfl⟩ q)
    · exact wpAny_pyIter_ascii ha (pi_one (tk := s1.toks) I1 _ (turn_str _ z t "str_ascii_iterator" (.inl rfl)) ⟨_, Heap.get?_push_size _ rfl, rfl, rfl⟩ q)
section
variable {K : PySem.W.Frag} {H0 : Hp} {m0 : MM}
theorem walkA_seq {x : AV} {v : V} {xs : List AV} {S : Sto} (r : RepS K H0 m0 S) (h : RepV K H0 m0 x v) (e : seqA S x = some xs) :
    ∃ a vs, v = .ref a ∧ ((SqL K H0 a vs ∧ WalkA K (Itl K a) xs (guardA x xs) H0 m0) ∨ (SqT K H0 a vs ∧ WalkA K (Itt K a) xs (guardA x xs) H0 m0)) := by
  cases x with
  | tup ys =>
    have e : ys = xs := Option.some.inj e
    subst e
    obtain ⟨a, vs, ev, h1, hz, h2⟩ := h
    have l := h2.length
    refine ⟨a, vs, ev, .inr ⟨h1.seq, ⟨by omega, fun i H m S hi st rS _ => ?_, fun H m S st rS _ => ?_, fun i H m S x H' hi st rS _ y => ?_⟩⟩⟩
    · exact walk_tup.goes i H (by omega) (h1.stp st).seq
    · rw [l]; exact walk_tup.stops H (h1.stp st).seq
    · obtain ⟨rfl, e⟩ := walk_tup.yields i H x H' (by omega) (h1.stp st).seq y
      obtain ⟨y', g1, g2⟩ : ∃ y', ys[i]? = some y' ∧ True := ⟨ys[i], List.getElem?_eq_getElem hi, trivial⟩
      obtain ⟨u, g3, g4⟩ := (RepVs.stp st _ _ h2).get g1
      rw [e] at g3
      cases g3
      exact ⟨.refl _ _, rS, y', g1, g4⟩
  | fl ys =>
    have e : ys = xs := Option.some.inj e
    subst e
    obtain ⟨a, vs, ev, h1, hz, h2⟩ := h
    have l := h2.length
    refine ⟨a, vs, ev, .inl ⟨.inl (.inl h1.1), ⟨by omega, fun i H m S hi st rS _ => ?_, fun H m S st rS _ => ?_, fun i H m S x H' hi st rS _ y => ?_⟩⟩⟩
    · exact walk_list.goes i H (by omega) (h1.stp st).seqL
    · rw [l]; exact walk_list.stops H (h1.stp st).seqL
    · obtain ⟨rfl, e⟩ := walk_list.yields i H x H' (by omega) (h1.stp st).seqL y
      obtain ⟨y', g1, g2⟩ : ∃ y', ys[i]? = some y' ∧ True := ⟨ys[i], List.getElem?_eq_getElem hi, trivial⟩
      obtain ⟨u, g3, g4⟩ := (RepVs.stp st _ _ h2).get g1
      rw [e] at g3
      cases g3
      exact ⟨.refl _ _, rS, y', g1, g4⟩
  | sl ys =>
    have e : ys = xs := Option.some.inj e
    subst e
    obtain ⟨a, vs, ev, h1, hz, h2⟩ := h
    have l := h2.length
    refine ⟨a, vs, ev, .inl ⟨h1.seq, ⟨by omega, fun i H m S hi st rS _ => ?_, fun H m S st rS _ => ?_, fun i H m S x H' hi st rS _ y => ?_⟩⟩⟩
    · exact walk_list.goes i H (by omega) (h1.stp st).seq
    · rw [l]; exact walk_list.stops H (h1.stp st).seq
    · obtain ⟨rfl, e⟩ := walk_list.yields i H x H' (by omega) (h1.stp st).seq y
      obtain ⟨y', g1, g2⟩ : ∃ y', ys[i]? = some y' ∧ True := ⟨ys[i], List.getElem?_eq_getElem hi, trivial⟩
      obtain ⟨u, g3, g4⟩ := (RepVs.stp st _ _ h2).get g1
      rw [e] at g3
      cases g3
      exact ⟨.refl _ _, rS, y', g1, g4⟩
  | ref n =>
    have e1 : asM S (.ref n) = some xs := e
    obtain ⟨a, ha, ev⟩ := h
    have hn : S[n]? = some (.lst xs) := by
      unfold asM at e1
      dsimp only at e1
      split at e1
      · cases e1; assumption
      · cases e1
    obtain ⟨vs, h1, hz, h2⟩ := r.at_ n _ a hn ha
    have l := h2.length
    have cell : ∀ H m S, Stp H0 m0 H m → RepS K H m S → guardA (.ref n) xs S → ∃ ws, H a = some (.lst ws) ∧ RepVs K H m xs ws := fun H m S st rS g => by
      obtain ⟨ws, k1, _, k2⟩ := rS.at_ n _ a (show S[n]? = some (.lst xs) from g) (pre_get st.pre ha)
      exact ⟨ws, k1, k2⟩
    refine ⟨a, vs, ev, .inl ⟨.inl (.inl h1), ⟨by omega, fun i H m S hi st rS g => ?_, fun H m S st rS g => ?_, fun i H m S x H' hi st rS g y => ?_⟩⟩⟩
    · obtain ⟨ws, k1, k2⟩ := cell H m S st rS g
      exact walk_list.goes i H (by rw [← k2.length]; omega) (SqL.of k1)
    · obtain ⟨ws, k1, k2⟩ := cell H m S st rS g
      rw [k2.length]
      exact walk_list.stops H (SqL.of k1)
    · obtain ⟨ws, k1, k2⟩ := cell H m S st rS g
      obtain ⟨rfl, e⟩ := walk_list.yields i H x H' (by rw [← k2.length]; omega) (SqL.of k1) y
      obtain ⟨y', g1, g2⟩ : ∃ y', xs[i]? = some y' ∧ True := ⟨xs[i], List.getElem?_eq_getElem hi, trivial⟩
      obtain ⟨u, g3, g4⟩ := k2.get g1
      rw [e] at g3
      cases g3
      exact ⟨.refl _ _, rS, y', g1, g4⟩
  | _ =>
    have e' : (none : Option (List AV)) = some xs := e
    cases e'
theorem walkA_str {z : Str} (hz : z.cps.size ≤ sizeLine) : WalkA K (Its z) (z.cps.toList.map fun c => .str ⟨#[c]⟩) (fun _ => True) H0 m0 := by
  have l : (z.cps.toList.map fun c => AV.str ⟨#[c]⟩).length = z.cps.size := by simp
  refine ⟨by rw [l]; exact hz, fun i H m S hi st rS _ => ?_, fun H m S st rS _ => ?_, fun i H m S x H' hi st rS _ y => ?_⟩
  · exact walk_str.goes i H (by omega) trivial
  · rw [l]; exact walk_str.stops H trivial
  · obtain ⟨rfl, c, e, rfl⟩ := walk_str.yields i H x H' (by omega) trivial y
    refine ⟨.refl _ _, rS, .str ⟨#[c]⟩, ?_, rfl⟩
    rw [List.getElem?_map, Array.getElem?_toList, e]
    rfl
/-- new pairs, one a turn -/
theorem walkA_pair {J : It} {n : Nat} {G : Hp → Prop} {xs ys : Nat → Option V} (w : Walk J n G (YPair xs ys)) {ps : List AV} {GA : Sto → Prop} (hl : ps.length = n) (hz : n ≤ sizeLine)
    (hG : ∀ H m S, Stp H0 m0 H m → RepS K H m S → GA S → G H) (hp : ∀ H m S i x y, i < n → Stp H0 m0 H m → RepS K H m S → GA S → xs i = some x → ys i = some y → ∃ a b, ps[i]? = some (.tup [a, b]) ∧ RepV K H m a x ∧ RepV K H m b y) : WalkA K J ps GA H0 m0 := by
  refine ⟨by omega, fun i H m S hi st rS g => ?_, fun H m S st rS g => ?_, fun i H m S x H' hi st rS g y => ?_⟩
  · exact w.goes i H (by omega) (hG H m S st rS g)
  · rw [hl]; exact w.stops H (hG H m S st rS g)
  · obtain ⟨T, u, v, rfl, hT, rfl, e1, e2⟩ := w.yields i H x H' (by omega) (hG H m S st rS g) y
    obtain ⟨a, b, ei, ra, rb⟩ := hp H m S i u v (by omega) st rS g e1 e2
    have st2 : Stp H m (upd H T (.tup [u, v])) m := stp_new hT
    exact ⟨st2, rS.new hT, _, ei, T, [u, v], rfl, pin_new rS hT, (by show 2 ≤ sizeLine; decide), u, [v], rfl, ra.stp st2, v, [], rfl, rb.stp st2, rfl⟩
end
section
variable {X : Cx} {tg e : Expr} {te : ATE} {pos p : Pos}
theorem si_iter (he : SE X e te) : SI X tg e (aIter te) := PI.imp (pi_seq he) fun σ H R h => by
  obtain ⟨m, S, ρ, QA, rS, rE, h, fin⟩ := h
  refine ⟨m, S, ρ, _, rS, rE, h, fun H1 m1 S1 x v s1 rS1 rv1 q1 => ?_⟩
  cases es : seqA S1 x with
  | some xs =>
    rw [es] at q1
    obtain ⟨a, vs, ev, w⟩ := walkA_seq rS1 rv1 es
    rcases w with ⟨hs, w⟩ | ⟨hs, w⟩
    · exact .inl ⟨a, vs, ev, hs, fin H1 m1 S1 xs _ _ s1 rS1 w q1⟩
    · exact .inr (.inl ⟨a, vs, ev, hs, fin H1 m1 S1 xs _ _ s1 rS1 w q1⟩)
  | none =>
    rw [es] at q1
    cases x with
    | str z => exact .inr (.inr ⟨z, rv1, fin H1 m1 S1 _ _ _ s1 rS1 (walkA_str q1.1) q1.2⟩)
    | _ => exact q1.elim
/-- range -/
def rgA (lo : Int) (c : Int) (n : Nat) : List AV := (List.range n).map fun (i : Nat) => .int (lo + (i : Int) * c)
def aRange1 (t : ATA) : ATI := fun ρ S R => t ρ S fun xs S1 => match xs with
  | [.int j] => (-(2 ^ 62) ≤ j ∧ j < 2 ^ 62 ∧ j.toNat ≤ sizeLine) ∧ R (rgA 0 1 j.toNat) (fun _ => True) S1
  | _ => False
def aRange2 (t : ATA) : ATI := fun ρ S R => t ρ S fun xs S1 => match xs with
  | [.int i, .int j] => ((-(2 ^ 62) ≤ i ∧ i < 2 ^ 62 ∧ -(2 ^ 62) ≤ j ∧ j < 2 ^ 62) ∧ (j - i).toNat ≤ sizeLine) ∧ R (rgA i 1 (j - i).toNat) (fun _ => True) S1
  | _ => False
def aRange3 (t : ATA) : ATI := fun ρ S R => t ρ S fun xs S1 => match xs with
  | [.int i, .int j, .int c] => ∃ n, (RgC i j c n ∧ n ≤ sizeLine) ∧ R (rgA i c n) (fun _ => True) S1
  | _ => False
theorem rgA_len (lo c : Int) (n : Nat) : (rgA lo c n).length = n := by unfold rgA; rw [List.length_map, List.length_range]
theorem rgA_get {lo c : Int} {n i : Nat} (h : i < n) : (rgA lo c n)[i]? = some (.int (lo + (i : Int) * c)) := by
  unfold rgA
  rw [List.getElem?_map, List.getElem?_range h]
  rfl
theorem walkA_rg {K : PySem.W.Frag} {H0 : Hp} {m0 : MM} {J : It} {lo c : Int} {n : Nat} (w : Walk J n (fun _ => True) (YFn fun i => .int (lo + (i : Int) * c))) (hz : n ≤ sizeLine) : WalkA K J (rgA lo c n) (fun _ => True) H0 m0 := by
  have l := rgA_len lo c n
  refine ⟨by omega, fun i H m S hi st rS g => ?_, fun H m S st rS g => ?_, fun i H m S x H' hi st rS g y => ?_⟩
  · exact w.goes i H (by omega) trivial
  · rw [l]; exact w.stops H trivial
  · obtain ⟨rfl, rfl⟩ := w.yields i H x H' (by omega) trivial y
    exact ⟨.refl _ _, rS, _, rgA_get (by omega), rfl⟩
theorem walk_range' {lo : Int} {n : Nat} : Walk (Itr lo n) n (fun _ => True) (YFn fun i => .int (lo + (i : Int) * 1)) :=
  walk_range.mono (fun _ h => h) fun i H x H' _ _ y => ⟨y.1, by rw [y.2]; show V.int (lo + ↑i) = V.int (lo + ↑i * 1); rw [Int.mul_one]⟩
variable {a b c : Expr} {ta : ATA}
theorem si_range1 (hg : Gl X "range") (hm : X.mg "range" = none) (ha : SA X [a] ta) (hs : starEach [a] X.env = [(false, eval a X.env)] := by rfl) : SI X tg (.Call (.Name "range" p) [a] [] pos) (aRange1 ta) :=
  PI.imp (pi_range1 hg hm ha hs) fun σ H R h => by
    obtain ⟨m, S, ρ, QA, rS, rE, h, fin⟩ := h
    refine ⟨m, S, ρ, _, rS, rE, h, fun H1 m1 S1 xs vs s1 rS1 rv1 q1 => ?_⟩
    split at q1
    · rename_i j
      obtain ⟨v, rfl, h1⟩ := rv1.one_of
      have h1 : v = .int j := h1
      subst h1
      exact ⟨j, rfl, q1.1.1, q1.1.2.1, fin H1 m1 S1 _ _ _ s1 rS1 (walkA_rg walk_range' q1.1.2.2) q1.2⟩
    · exact q1.elim
theorem si_range2 (hg : Gl X "range") (hm : X.mg "range" = none) (ha : SA X [a, b] ta) (hs : starEach [a, b] X.env = [(false, eval a X.env), (false, eval b X.env)] := by rfl) (hs2 : starEach [b] X.env = [(false, eval b X.env)] := by rfl) : SI X tg (.Call (.Name "range" p) [a, b] [] pos) (aRange2 ta) :=
  PI.imp (pi_range2 hg hm ha hs hs2) fun σ H R h => by
    obtain ⟨m, S, ρ, QA, rS, rE, h, fin⟩ := h
    refine ⟨m, S, ρ, _, rS, rE, h, fun H1 m1 S1 xs vs s1 rS1 rv1 q1 => ?_⟩
    split at q1
    · rename_i i j
      obtain ⟨v, w, rfl, h1, h2⟩ := rv1.two_of
      have h1 : v = .int i := h1
      have h2 : w = .int j := h2
      subst h1; subst h2
      exact ⟨i, j, rfl, q1.1.1, fin H1 m1 S1 _ _ _ s1 rS1 (walkA_rg walk_range' q1.1.2) q1.2⟩
    · exact q1.elim
theorem RepVs.three_of {K : PySem.W.Frag} {H : Hp} {m : MM} {x y z : AV} {vs : List V} (h : RepVs K H m [x, y, z] vs) : ∃ v w u, vs = [v, w, u] ∧ RepV K H m x v ∧ RepV K H m y w ∧ RepV K H m z u := by
  obtain ⟨v, r, rfl, h1, h2⟩ := h
  obtain ⟨w, u, rfl, h3, h4⟩ := h2.two_of
  exact ⟨v, w, u, rfl, h1, h3, h4⟩
theorem si_range3 (hg : Gl X "range") (hm : X.mg "range" = none) (ha : SA X [a, b, c] ta)
    (hs : starEach [a, b, c] X.env = (false, eval a X.env) :: starEach [b, c] X.env := by rfl) (hpl : (backTo pos (starEach [b, c] X.env)).any (·.1) = false := by rfl) : SI X tg (.Call (.Name "range" p) [a, b, c] [] pos) (aRange3 ta) :=
  PI.imp (pi_range3 hg hm ha hs hpl) fun σ H R h => by
    obtain ⟨m, S, ρ, QA, rS, rE, h, fin⟩ := h
    refine ⟨m, S, ρ, _, rS, rE, h, fun H1 m1 S1 xs vs s1 rS1 rv1 q1 => ?_⟩
    split at q1
    · rename_i i j k
      obtain ⟨n, hn, q⟩ := q1
      obtain ⟨v, w, u, rfl, h1, h2, h3⟩ := rv1.three_of
      have h1 : v = .int i := h1
      have h2 : w = .int j := h2
      have h3 : u = .int k := h3
      subst h1; subst h2; subst h3
      exact ⟨i, j, k, n, rfl, hn.1, fin H1 m1 S1 _ _ _ s1 rS1 (walkA_rg walk_rangeC hn.2) q⟩
    · exact q1.elim
/-- enumerate -/
def enumA (xs : List AV) : List AV := (xs.zipIdx).map fun p => .tup [.int (p.2 : Nat), p.1]
theorem enumA_len (xs : List AV) : (enumA xs).length = xs.length := by unfold enumA; simp
def aEnum (t : ATA) : ATI := fun ρ S R => t ρ S fun xs S1 => match xs with
  | [x] => match asL S1 x with
    | some ys => R (enumA ys) (guardA x ys) S1
    | none => False
  | _ => False
/-- a list that is read at later states -/
theorem list_later {K : PySem.W.Frag} {H0 : Hp} {m0 : MM} {S0 : Sto} {x : AV} {v : V} {xs : List AV} (r : RepS K H0 m0 S0) (h : RepV K H0 m0 x v) (e : asL S0 x = some xs) :
    ∃ a vs, v = .ref a ∧ SqL K H0 a vs ∧ xs.length = vs.length ∧ vs.length ≤ sizeLine ∧ ∀ H m S, Stp H0 m0 H m → RepS K H m S → guardA x xs S → ∃ ws, SqL K H a ws ∧ RepVs K H m xs ws := by
  cases x with
  | fl ys =>
    have e : ys = xs := Option.some.inj e
    subst e
    obtain ⟨a, vs, ev, h1, hz, h2⟩ := h
    exact ⟨a, vs, ev, h1.seqL, h2.length, hz, fun H m S st _ _ => ⟨vs, (h1.stp st).seqL, RepVs.stp st _ _ h2⟩⟩
  | sl ys =>
    have e : ys = xs := Option.some.inj e
    subst e
    obtain ⟨a, vs, ev, h1, hz, h2⟩ := h
    exact ⟨a, vs, ev, h1.seq, h2.length, hz, fun H m S st _ _ => ⟨vs, (h1.stp st).seq, RepVs.stp st _ _ h2⟩⟩
  | ref n =>
    have e1 : asM S0 (.ref n) = some xs := e
    obtain ⟨a, ha, ev⟩ := h
    have hn : S0[n]? = some (.lst xs) := by
      unfold asM at e1
      dsimp only at e1
      split at e1
      · cases e1; assumption
      · cases e1
    obtain ⟨vs, h1, hz, h2⟩ := r.at_ n _ a hn ha
    refine ⟨a, vs, ev, SqL.of h1, h2.length, hz, fun H m S st rS g => ?_⟩
    obtain ⟨ws, k1, _, k2⟩ := rS.at_ n _ a (show S[n]? = some (.lst xs) from g) (pre_get st.pre ha)
    exact ⟨ws, SqL.of k1, k2⟩
  | _ =>
    have e' : (none : Option (List AV)) = some xs := e
    cases e'
theorem si_enum {elts : List Expr} {kk : Nat} {tpos : Pos} (hg : Gl X "enumerate") (hm : X.mg "enumerate" = none) (ha : SA X [e] ta) (hs : starEach [e] X.env = [(false, eval e X.env)] := by rfl) :
    SI X (.Tuple elts kk tpos) (.Call (.Name "enumerate" p) [e] [] pos) (aEnum ta) :=
  PI.imp (pi_enum hg hm ha hs) fun σ H R h => by
    obtain ⟨m, S, ρ, QA, rS, rE, h, fin⟩ := h
    refine ⟨m, S, ρ, _, rS, rE, h, fun H1 m1 S1 xs vs s1 rS1 rv1 q1 => ?_⟩
    split at q1
    · rename_i x
      cases es : asL S1 x with
      | none => rw [es] at q1; exact q1.elim
      | some ys =>
        rw [es] at q1
        obtain ⟨v, rfl, h1⟩ := rv1.one_of
        obtain ⟨a, vs, ev, h2, hl, hz, lat⟩ := list_later rS1 h1 es
        subst ev
        refine ⟨a, vs, rfl, h2, fin H1 m1 S1 _ (guardA x ys) _ s1 rS1 ?_ q1⟩
        have hn : (enumA ys).length = vs.length := by rw [enumA_len]; exact hl
        have go : ∀ H m S i, Stp H1 m1 H m → RepS X.K H m S → guardA x ys S → i < (enumA ys).length → (Ite X.K a).go i H := fun H m S i st rS g hi => by
          obtain ⟨ws, k1, k2⟩ := lat H m S st rS g
          have l2 := k2.length
          have hi2 : i < ws.length := by omega
          exact ⟨ws, ws[i], k1, List.getElem?_eq_getElem hi2⟩
        refine ⟨by omega, fun i H m S hi st rS g => go H m S i st rS g hi, fun H m S st rS g => ?_, fun i H m S u H' hi st rS g y => ?_⟩
        · obtain ⟨ws, k1, k2⟩ := lat H m S st rS g
          have l2 := k2.length
          exact ⟨ws, k1, by omega⟩
        · obtain ⟨ws, k1, k2⟩ := lat H m S st rS g
          obtain ⟨T, w, rfl, hT, rfl, hw⟩ := y
          have hi2 : i < ys.length := by rw [enumA_len] at hi; exact hi
          obtain ⟨w', g1, g2⟩ := k2.get (List.getElem?_eq_getElem hi2)
          rw [hw ws k1] at g1
          cases g1
          have st2 : Stp H m (upd H T (.tup [.int (i : Nat), w])) m := stp_new hT
          refine ⟨st2, rS.new hT, .tup [.int (i : Nat), ys[i]], ?_, T, [.int (i : Nat), w], rfl, pin_new rS hT, (by show 2 ≤ sizeLine; decide), .int (i : Nat), [w], rfl, rfl, w, [], rfl, g2.stp st2, rfl⟩
          unfold enumA
          rw [List.getElem?_map, List.getElem?_zipIdx, List.getElem?_eq_getElem hi2]
          simp
    · exact q1.elim
end

/-! ### comprehensions -/
def wipeA (ρ : AEnv) : List Nat → AEnv
  | [] => ρ
  | v :: vs => (wipeA ρ vs).set v none
theorem RepE.unset {K : PySem.W.Frag} {H : Hp} {m : MM} {ρ : AEnv} {σ : L2.St} (r : RepE K H m ρ σ) (i : Nat) : RepE K H m (ρ.set i none) (σ.set i none) := by
  refine ⟨by rw [List.length_set, List.length_set]; exact r.len, fun j y e => ?_⟩
  by_cases hj : j = i
  · subst hj
    by_cases hl : j < ρ.length
    · rw [List.getElem?_set_self hl] at e
      cases e
    · rw [List.getElem?_eq_none (by rw [List.length_set]; omega)] at e
      cases e
  · rw [List.getElem?_set_ne (Ne.symm hj)] at e
    obtain ⟨u, h1, h2⟩ := r.at_ j y e
    exact ⟨u, by rw [List.getElem?_set_ne (Ne.symm hj)]; exact h1, h2⟩
theorem RepE.wipe {K : PySem.W.Frag} {H : Hp} {m : MM} {ρ : AEnv} {σ : L2.St} (r : RepE K H m ρ σ) : ∀ vs, RepE K H m (wipeA ρ vs) (L2.wipe σ vs)
  | [] => r
  | v :: vs => (r.wipe vs).unset v
theorem wipe_get {σ : L2.St} : ∀ {vs : List Nat} {i : Nat}, i ∉ vs → (L2.wipe σ vs)[i]? = σ[i]?
  | [], _, _ => rfl
  | v :: vs, i, h => by
    rw [List.mem_cons, not_or] at h
    show ((L2.wipe σ vs).set v none)[i]? = _
    rw [List.getElem?_set_ne (Ne.symm h.1)]
    exact wipe_get h.2
theorem wipe_in {σ : L2.St} : ∀ {vs : List Nat} {i : Nat}, i ∈ vs → i < σ.length → (L2.wipe σ vs)[i]? = some none
  | v :: vs, i, h, hl => by
    show ((L2.wipe σ vs).set v none)[i]? = _
    by_cases e : v = i
    · subst e
      rw [List.getElem?_set_self (by rw [wipe_length]; exact hl)]
    · rw [List.getElem?_set_ne e]
      refine wipe_in ?_ hl
      rcases List.mem_cons.mp h with z | z
      · exact absurd z.symm e
      · exact z
theorem wipe_same {σ σ2 : L2.St} {vs ws : List Nat} (b : SameB ws (L2.wipe σ vs) σ2) (h : ∀ i ∈ ws, i ∈ vs) : L2.wipe σ2 vs = L2.wipe σ vs := by
  have l : σ2.length = σ.length := by rw [b.1, wipe_length]
  refine List.ext_getElem? fun i => ?_
  by_cases hi : i ∈ vs
  · by_cases hl : i < σ.length
    · rw [wipe_in hi hl, wipe_in hi (by omega)]
    · rw [List.getElem?_eq_none (by rw [wipe_length]; omega), List.getElem?_eq_none (by rw [wipe_length]; omega)]
  · rw [wipe_get hi, b.2 i (fun z => hi (h i z))]
def aYes : ATT := fun _ S Q => Q true S
def STs (X : Cx) (ifs : List Expr) (t : ATT) : Prop := PTs X ifs (lT X.K t)
theorem PTs.imp {X : Cx} {e : List Expr} {t t' : TT} (h : PTs X e t) (i : ∀ σ H Q, t' σ H Q → t σ H Q) : PTs X e t' := ⟨fun pins s σ H Q I q => h.run pins s σ H Q I (i σ H Q q)⟩
theorem sts_nil {X : Cx} : STs X [] aYes := PTs.imp pts_nil fun σ H Q h => by
  obtain ⟨m, S, ρ, QA, rS, rE, h, fin⟩ := h
  exact fin H m S true (.refl _ _) rS h
theorem sts_one {X : Cx} {c : Expr} {t : ATT} (h : ST X c t) : STs X [c] t := pts_one h
def compA (GA : Sto → Prop) (g : ATG) (tt : ATT) (te : ATE) (ρw : AEnv) : List AV → List AV → Sto → (List AV → Sto → Prop) → Prop
  | [], acc, S, Q => GA S ∧ Q acc S
  | x :: xs, acc, S, Q => GA S ∧ g x ρw S fun ρ1 S1 => tt ρ1 S1 fun b S2 => match b with
    | true => te ρ1 S2 fun y S3 => compA GA g tt te ρw xs (acc ++ [y]) S3 Q
    | false => compA GA g tt te ρw xs acc S2 Q
def aComp (ti : ATI) (g : ATG) (tt : ATT) (te : ATE) (vs : List Nat) : ATE := fun ρ S Q => ti ρ S fun xs GA S1 => compA GA g tt te (wipeA ρ vs) xs [] S1 fun ys S2 => Q (.fl ys) S2
section
variable {X : Cx} {elt tg iter : Expr} {ifs : List Expr} {scope : Scope} {own : List (Str × Nat)} {pos : Pos} {ti : ATI} {g : ATG} {tt : ATT} {te : ATE} {ws : List Nat}
theorem comp_imp {σ : L2.St} {H : Hp} {Q : VK} {vs : List Nat} (hw : ∀ i ∈ ws, i ∈ vs) (h : lE X.K (aComp ti g tt te vs) σ H Q) : tLc (lI X.K ti) (lG X.K g ws) (lT X.K tt) (lE X.K te) vs σ H Q := by
  obtain ⟨m, S, ρ, QA, rS, rE, h, fin⟩ := h
  refine ⟨m, S, ρ, _, rS, rE, h, fun H1 m1 S1 xs GA J s1 rS1 wA q1 D hD => ?_⟩
  have sD : Stp H1 m1 (upd H1 D (.lst [])) (m1.res D) := stp_res hD
  refine ⟨fun i k H' => k = xs.length - i ∧ i ≤ xs.length ∧ ∃ m' S' ys acc, Stp H1 m1 H' m' ∧ RepS X.K H' m' S' ∧ D ∈ m'.r ∧ D ∉ m'.c ∧ H' D = some (.lst acc) ∧ acc.length ≤ i ∧ RepVs X.K H' m' ys acc ∧
    compA GA g tt te (wipeA ρ vs) (xs.drop i) ys S' fun ys S2 => QA (.fl ys) S2, ⟨xs.length, rfl, Nat.zero_le _, m1.res D, S1, [], [], sD, rS1.hold hD, List.mem_cons_self, rS1.fresh hD, upd_same, Nat.le_refl _, rfl, q1⟩, ?_⟩
  rintro i k H' ⟨rfl, hi, m', S', ys, acc, st, rS', pD, nD, eD, la, ry, q⟩
  by_cases hlt : i < xs.length
  · rw [drop_cons hlt] at q
    obtain ⟨qg, q⟩ := q
    refine .inr ⟨wA.go i H' m' S' hlt st rS' qg, fun H2 => ∃ m' S' ys acc, Stp H1 m1 H2 m' ∧ RepS X.K H2 m' S' ∧ D ∈ m'.r ∧ D ∉ m'.c ∧ H2 D = some (.lst acc) ∧ acc.length ≤ i + 1 ∧ RepVs X.K H2 m' ys acc ∧
      compA GA g tt te (wipeA ρ vs) (xs.drop (i + 1)) ys S' fun ys S2 => QA (.fl ys) S2, fun H2 hn => ⟨xs.length - (i + 1), by omega, rfl, hlt, hn⟩, fun x H2 hy => ?_⟩
    obtain ⟨sy, rSy, y, ey, vy⟩ := wA.yld i H' m' S' x H2 hlt st rS' qg hy
    rw [List.getElem?_eq_getElem hlt] at ey
    cases ey
    refine ⟨m', S', wipeA ρ vs, _, _, rSy, (rE.stp (s1.trans (st.trans sy))).wipe vs, vy, q, fun H3 m3 S3 ρ3 σ3 s3 rS3 rE3 b3 q3 => ?_⟩
    refine ⟨wipe_same b3 hw, m3, S3, ρ3, _, rS3, rE3, q3, fun H4 m4 S4 b s4 rS4 q4 => ?_⟩
    have later : ∀ {H4 : Hp} {m4 : MM}, Stp H' m' H4 m4 → D ∈ m4.r ∧ D ∉ m4.c ∧ H4 D = some (.lst acc) ∧ RepVs X.K H4 m4 ys acc := fun {H4 m4} s => by
      refine ⟨s.keep D pD, fun z => ?_, (by obtain ⟨o', e', f⟩ := s.old D _ eD nD; rw [e', f.eq True.intro]), RepVs.stp s _ _ ry⟩
      rcases s.newc D z with y | y
      · exact nD y
      · rw [eD] at y; cases y
    have st4 : Stp H1 m1 H4 m4 := ((st.trans sy).trans s3).trans s4
    have s04 := (sy.trans s3).trans s4
    cases b with
    | false =>
      obtain ⟨a1, a2, a3, a4⟩ := later s04
      exact iteF ⟨m4, S4, ys, acc, st4, rS4, a1, a2, a3, by omega, a4, q4⟩
    | true =>
      refine iteT ⟨m4, S4, ρ3, _, rS4, rE3.stp s4, q4, fun H5 m5 S5 z w s5 rS5 rv5 q5 => ?_⟩
      obtain ⟨a1, a2, a3, a4⟩ := later (s04.trans s5)
      have hz : acc.length < sizeLine := by
        have := wA.len
        omega
      have st5 := st4.trans s5
      refine ⟨acc, a3, hz, m5, S5, ys ++ [z], acc ++ [w], ?_, rS5.chgUpd a1 a2, a1, a2, upd_same, by rw [List.length_append]; simpa using la, RepVs.chg (chg_upd a1) _ _ (a4.append (.one rv5)), q5⟩
      refine ⟨st5.pre, fun a o e n => ?_, st5.newc, st5.newr, st5.keep, fun a o e => ?_⟩
      · obtain ⟨o', e', f⟩ := st5.old a o e n
        exact ⟨o', by rw [upd_ne (ne_of_none e hD)]; exact e', f⟩
      · obtain ⟨o', e'⟩ := st5.live a o e
        exact live_upd e'
  · have e : i = xs.length := by omega
    subst e
    rw [List.drop_length] at q
    refine .inl ⟨wA.stop H' m' S' st rS' q.1, ?_⟩
    have st2 : Stp H1 m1 H' (m'.free D) := by
      refine ⟨st.pre, st.old, st.newc, fun a z => st.newr a (List.mem_filter.mp z).1, fun a z => List.mem_filter.mpr ⟨st.keep a z, decide_eq_true fun y => ?_⟩, st.live⟩
      subst y
      exact rS1.freshR hD z
    refine fin H' (m'.free D) S' (.fl ys) _ (s1.trans st2) rS'.chgFree ⟨D, acc, rfl, ⟨eD, nD, fun z => ?_⟩, by have := wA.len; omega, RepVs.chg chg_free _ _ ry⟩ q.2
    exact of_decide_eq_true (List.mem_filter.mp z).2 rfl
theorem se_comp (hc : X.calm = true) (hN : X.N.Nodup) (hi : SI X tg iter ti) (ok : BlkOk X.N X.env.scope scope own)
    (hg : ∀ (s : Shared) (H : Hp) (C : Addr) (cl : List (Str × Addr)) (fp : List Addr), SG (X.blk s H scope (compEnvC scope cl C X.env) fp) tg g ws) (ht : ∀ (s : Shared) (H : Hp) (C : Addr) (cl : List (Str × Addr)) (fp : List Addr), STs (X.blk s H scope (compEnvC scope cl C X.env) fp) ifs tt)
    (he : ∀ (s : Shared) (H : Hp) (C : Addr) (cl : List (Str × Addr)) (fp : List Addr), SE (X.blk s H scope (compEnvC scope cl C X.env) fp) elt te) (hw : ∀ i ∈ ws, i ∈ own.map (·.2) := by decide) (hs : ∀ x, foldedSetIterable iter X.env x = pure x := by intro _; rfl) :
    SE X (.ListComp elt [⟨tg, iter, ifs, 0⟩] scope pos) (aComp ti g tt te (own.map (·.2))) :=
  PE.imp (pe_lc (g := lG X.K g ws) (tt := lT X.K tt) (te := lE X.K te) hc hN hi ok (fun s H C cl fp => (hg s H C cl fp).run) ht he hs) fun _ _ _ h => comp_imp hw h
/-- name = [..], the name a local -/
theorem ss_setLc {i : Nat} {y : Str} {py spos : Pos} (hc : X.calm = true) (hN : X.N.Nodup) (hy : X.N[i]? = some y) (hyl : X.env.scope.names.lookup y = some .local)
    (hsw : swapsWith (.ListComp elt [⟨tg, iter, ifs, 0⟩] scope pos) (some (.Name y py)) spos.line X.env = pure true) (hi : SI X tg iter ti) (ok : BlkOk X.N X.env.scope scope own)
    (hg : ∀ (s : Shared) (H : Hp) (C : Addr) (cl : List (Str × Addr)) (fp : List Addr), SG (X.blk s H scope (compEnvC scope cl C X.env) fp) tg g ws) (ht : ∀ (s : Shared) (H : Hp) (C : Addr) (cl : List (Str × Addr)) (fp : List Addr), STs (X.blk s H scope (compEnvC scope cl C X.env) fp) ifs tt)
    (he : ∀ (s : Shared) (H : Hp) (C : Addr) (cl : List (Str × Addr)) (fp : List Addr), SE (X.blk s H scope (compEnvC scope cl C X.env) fp) elt te) (hw : ∀ i ∈ ws, i ∈ own.map (·.2) := by decide) (hs : ∀ x, foldedSetIterable iter X.env x = pure x := by intro _; rfl) :
    SS X (.Assign [.Name y py] (.ListComp elt [⟨tg, iter, ifs, 0⟩] scope pos) spos) (aSet i (aComp ti g tt te (own.map (·.2)))) :=
  PS.imp (ps_setLc (g := lG X.K g ws) (tt := lT X.K tt) (te := lE X.K te) hc hN hy hyl hsw hi ok (fun s H C cl fp => (hg s H C cl fp).run) ht he hs) fun D σ H h => by
    obtain ⟨m, S, ρ, DA, rS, rE, h, d⟩ := h
    exact comp_imp hw ⟨m, S, ρ, _, rS, rE, h, fun H1 m1 S1 x v s1 rS1 rv1 q1 => d.nx H1 m1 S1 _ _ s1 rS1 ((rE.stp s1).set i rv1) q1⟩
end

/-! ### methods of built-in types -/
/-- the receiver: a text, a list -/
def aMtS (r : RM) (to : ATE) (t : ATA) : ATE := fun ρ S Q => to ρ S fun x S1 => match x with
  | .str _ => t ρ S1 fun xs S2 => r x xs S2 Q
  | _ => False
def aMtL (r : RM) (to : ATE) (t : ATA) : ATE := fun ρ S Q => to ρ S fun x S1 => match asL S1 x with
  | some _ => t ρ S1 fun xs S2 => r x xs S2 Q
  | none => False
section
variable {X : Cx} {o e : Expr} {es : List Expr} {to : ATE} {t : ATA} {name : Str} {apos cpos : Pos} {T id : String} {r : RM}
theorem se_bmS (pa : PlainAttrs "str") (slot : Slot "str" name id) (hty : typeOf (.builtin id) = pure (.type "method_descriptor")) (hm : MtR X id (lRm X.K r)) (ho : SE X o to) (ha : SA X (e :: es) t)
    (hbase : attributeBase o name X.env (eval o X.env) = eval o X.env := by rfl)
    (hfew : ((backTo cpos (starEach (e :: es) X.env)).all (fun x => !x.1) && (backToKw cpos (keywordEach [] X.env)).all (fun x => x.1.isSome)
      && decide ((e :: es).length + ([] : List Keyword).length + (if ([] : List Keyword).isEmpty then 0 else 1) < 30)) = true := by rfl)
    (hline : (apos.endLine == cpos.line) = true := by rfl) (hs : starEach (e :: es) X.env = (false, eval e X.env) :: starEach es X.env := by rfl) (hplain : (backTo cpos (starEach es X.env)).any (·.1) = false := by rfl) :
    SE X (.Call (.Attribute o name apos) (e :: es) [] cpos) (aMtS r to t) := PE.imp (pe_bm pa slot hty hm ho ha hbase hfew hline hs hplain) fun σ H Q h => by
  obtain ⟨m, S, ρ, QA, rS, rE, h, fin⟩ := h
  refine ⟨m, S, ρ, _, rS, rE, h, fun H1 m1 S1 x v s1 rS1 rv1 q1 => ?_⟩
  cases x with
  | str z =>
    have ev : v = .str z := rv1
    subst ev
    refine ⟨rfl, m1, S1, ρ, _, rS1, rE.stp s1, q1, fun H2 m2 S2 xs vs s2 rS2 rv2 q2 => ?_⟩
    exact ⟨m2, S2, .str z, xs, QA, rS2, rfl, rv2, q2, Fin.stp (s1.trans s2) fin⟩
  | _ => exact (show False from q1).elim
theorem se_bmL (pa : PlainAttrs "list") (slot : Slot "list" name id) (hty : typeOf (.builtin id) = pure (.type "method_descriptor")) (hm : MtR X id (lRm X.K r)) (ho : SE X o to) (ha : SA X (e :: es) t)
    (hbase : attributeBase o name X.env (eval o X.env) = eval o X.env := by rfl)
    (hfew : ((backTo cpos (starEach (e :: es) X.env)).all (fun x => !x.1) && (backToKw cpos (keywordEach [] X.env)).all (fun x => x.1.isSome)
      && decide ((e :: es).length + ([] : List Keyword).length + (if ([] : List Keyword).isEmpty then 0 else 1) < 30)) = true := by rfl)
    (hline : (apos.endLine == cpos.line) = true := by rfl) (hs : starEach (e :: es) X.env = (false, eval e X.env) :: starEach es X.env := by rfl) (hplain : (backTo cpos (starEach es X.env)).any (·.1) = false := by rfl) :
    SE X (.Call (.Attribute o name apos) (e :: es) [] cpos) (aMtL r to t) := PE.imp (pe_bm pa slot hty hm ho ha hbase hfew hline hs hplain) fun σ H Q h => by
  obtain ⟨m, S, ρ, QA, rS, rE, h, fin⟩ := h
  refine ⟨m, S, ρ, _, rS, rE, h, fun H1 m1 S1 x v s1 rS1 rv1 q1 => ?_⟩
  split at q1
  · rename_i ys ey
    obtain ⟨a, vs, ev, h1, _, _⟩ := asL_rep rS1 rv1 ey
    subst ev
    refine ⟨.inl ⟨rfl, vs, h1⟩, m1, S1, ρ, _, rS1, rE.stp s1, q1, fun H2 m2 S2 xs vs s2 rS2 rv2 q2 => ?_⟩
    exact ⟨m2, S2, x, xs, QA, rS2, rv1.stp s2, rv2, q2, Fin.stp (s1.trans s2) fin⟩
  · exact q1.elim
theorem se_bmL0 (pa : PlainAttrs "list") (slot : Slot "list" name id) (hty : typeOf (.builtin id) = pure (.type "method_descriptor")) (hm : MtR X id (lRm X.K r)) (ho : SE X o to)
    (hbase : attributeBase o name X.env (eval o X.env) = eval o X.env := by rfl) (hline : (apos.endLine == cpos.line) = true := by rfl) : SE X (.Call (.Attribute o name apos) [] [] cpos) (aMtL r to aNil) := PE.imp (pe_bm0 pa slot hty hm ho hbase hline) fun σ H Q h => by
  obtain ⟨m, S, ρ, QA, rS, rE, h, fin⟩ := h
  refine ⟨m, S, ρ, _, rS, rE, h, fun H1 m1 S1 x v s1 rS1 rv1 q1 => ?_⟩
  split at q1
  · rename_i ys ey
    obtain ⟨a, vs, ev, h1, _, _⟩ := asL_rep rS1 rv1 ey
    subst ev
    exact ⟨.inl ⟨rfl, vs, h1⟩, m1, S1, x, [], QA, rS1, rv1, rfl, q1, Fin.stp s1 fin⟩
  · exact q1.elim
end
/-- a change of a list that is a cell -/
def rMutA (f : List AV → List AV → Option (AV × List AV)) : RM := fun x ys S Q => match x with
  | .ref n => match S[n]? with
    | some (.lst xs) => match f xs ys with
      | some (z, xs') => xs'.length ≤ sizeLine ∧ Q z (S.set n (.lst xs'))
      | none => False
    | _ => False
  | _ => False
theorem rMutA_of {f : List AV → List AV → Option (AV × List AV)} {x : AV} {ys : List AV} {S : Sto} {Q : AQ} (h : rMutA f x ys S Q) : ∃ n xs z xs', x = .ref n ∧ S[n]? = some (.lst xs) ∧ f xs ys = some (z, xs') ∧ xs'.length ≤ sizeLine ∧ Q z (S.set n (.lst xs')) := by
  unfold rMutA at h
  split at h
  · split at h
    · split at h
      · exact ⟨_, _, _, _, rfl, by assumption, by assumption, h⟩
      · exact h.elim
    · exact h.elim
  · exact h.elim
theorem mut_fin {K : PySem.W.Frag} {H : Hp} {m : MM} {S : Sto} {QA : AQ} {Q : VK} {n : Nat} {a : Addr} {xs' : List AV} {vs' : List V} {z : AV} {w : V} (fin : Fin K H m QA Q) (rS : RepS K H m S) (ha : m.c[n]? = some a) (hz : vs'.length ≤ sizeLine) (r : RepVs K H m xs' vs') (rz : RepV K H m z w) (q : QA z (S.set n (.lst xs'))) : Q w (upd H a (.lst vs')) := by
  have st : Stp H m (upd H a (.lst vs')) m := stp_set ha
  exact fin _ m _ z w st (rS.set (c := .lst xs') ha ⟨vs', upd_same, hz, RepVs.stp st _ _ r⟩) (rz.stp st) q
def fAppend (xs ys : List AV) : Option (AV × List AV) := match ys with
  | [y] => some (.non, xs ++ [y])
  | _ => none
def fPop (xs ys : List AV) : Option (AV × List AV) := match ys, xs.getLast? with
  | [], some y => some (y, xs.dropLast)
  | _, _ => none
section
variable {X : Cx}
theorem mt_appendA : MtR X "list.append" (lRm X.K (rMutA fAppend)) := by
  intro pins s σ H x xs v us Q I rx rs h
  obtain ⟨m, S, ax, axs, QA, rS, hx, hxs, h, fin⟩ := h
  obtain ⟨n, zs, z, zs', e1, e2, e3, hz, q⟩ := rMutA_of h
  subst e1
  obtain ⟨a, ha, vs, h1, h2, h3⟩ := rS.ix e2
  obtain ⟨a', ha', ex⟩ := hx
  rw [ha] at ha'
  cases ha'
  unfold fAppend at e3
  split at e3
  · cases e3
    obtain ⟨w, ew, hw⟩ := hxs.one_of
    subst ew
    have l := h3.length
    rw [List.length_append, List.length_singleton] at hz
    refine mt_append pins s σ H x _ v us Q I rx rs ⟨a, vs, w, ex, rfl, h1, by omega, ?_⟩
    exact mut_fin fin rS ha (by rw [List.length_append, List.length_singleton]; omega) (h3.append (.one hw)) (z := .non) rfl q
  · cases e3
theorem mt_popA : MtR X "list.pop" (lRm X.K (rMutA fPop)) := by
  intro pins s σ H x xs v us Q I rx rs h
  obtain ⟨m, S, ax, axs, QA, rS, hx, hxs, h, fin⟩ := h
  obtain ⟨n, zs, z, zs', e1, e2, e3, hz, q⟩ := rMutA_of h
  subst e1
  obtain ⟨a, ha, vs, h1, h2, h3⟩ := rS.ix e2
  obtain ⟨a', ha', ex⟩ := hx
  rw [ha] at ha'
  cases ha'
  unfold fPop at e3
  split at e3
  · rename_i y ey
    cases e3
    have exs : xs = [] := hxs
    subst exs
    have l := h3.length
    rw [List.getLast?_eq_getElem?] at ey
    obtain ⟨w, g1, g2⟩ := h3.get ey
    refine mt_pop pins s σ H x _ v us Q I rx rs ⟨a, vs, w, ex, rfl, h1, by rw [← l]; exact g1, ?_⟩
    exact mut_fin fin rS ha (by rw [List.length_dropLast]; omega) h3.dropLast g2 q
  · cases e3
/-- l.extend(a list) -/
def rExtA : RM := fun x ys S Q => match x, ys with
  | .ref n, [y] => match S[n]?, asM S y with
    | some (.lst xs), some zs => xs.length + zs.length ≤ sizeLine ∧ Q .non (S.set n (.lst (xs ++ zs)))
    | _, _ => False
  | _, _ => False
theorem rExtA_of {x : AV} {ys : List AV} {S : Sto} {Q : AQ} (h : rExtA x ys S Q) : ∃ n y xs zs, x = .ref n ∧ ys = [y] ∧ S[n]? = some (.lst xs) ∧ asM S y = some zs ∧ xs.length + zs.length ≤ sizeLine ∧ Q .non (S.set n (.lst (xs ++ zs))) := by
  unfold rExtA at h
  split at h
  · split at h
    · exact ⟨_, _, _, _, rfl, rfl, by assumption, by assumption, h⟩
    · exact h.elim
  · exact h.elim
theorem mt_extendA : MtR X "list.extend" (lRm X.K rExtA) := by
  intro pins s σ H x xs v us Q I rx rs h
  obtain ⟨m, S, ax, axs, QA, rS, hx, hxs, h, fin⟩ := h
  obtain ⟨n, y, zs, ws, e1, e0, e2, e3, hz, q⟩ := rExtA_of h
  subst e1; subst e0
  obtain ⟨a, ha, vs, h1, h2, h3⟩ := rS.ix e2
  obtain ⟨a', ha', ex⟩ := hx
  rw [ha] at ha'
  cases ha'
  obtain ⟨w, ew, hw⟩ := hxs.one_of
  subst ew
  obtain ⟨b, us', eb, k1, k2, k3⟩ := asM_rep rS hw e3
  subst eb
  have l := h3.length
  have l2 := k3.length
  refine mt_extend pins s σ H x _ v us Q I rx rs ⟨a, b, vs, us', ex, rfl, h1, k1, by omega, ?_⟩
  exact mut_fin fin rS ha (by rw [List.length_append]; omega) (h3.append k3) (z := .non) rfl q
end
end HA

/-! Layer A, part 6: a def's promise; what was made in it is dropped or told by what it holds; the law's end. -/
namespace HA
open PySem PySem.Spec PyProof.Rows L2

mutual
def ltV (k : Nat) : AV → Bool
  | .ref n => decide (n < k)
  | .tup xs => ltVs k xs
  | .fl xs => ltVs k xs
  | .sl xs => ltVs k xs
  | .fd _ xs => ltVs k xs
  | _ => true
def ltVs (k : Nat) : List AV → Bool
  | [] => true
  | x :: xs => ltV k x && ltVs k xs
end
def Cell.lt (k : Nat) : Cell → Bool
  | .lst xs => ltVs k xs
  | .dct _ xs => ltVs k xs
  | .ins _ fs => ltVs k (fs.map (·.2))
  | .gone => true
mutual
inductive Frz (S : Sto) (k : Nat) : AV → AV → Prop
  | same {x : AV} : ltV k x = true → Frz S k x x
  | lst {n : Nat} {xs ys : List AV} : k ≤ n → S[n]? = some (.lst xs) → Frzs S k xs ys → Frz S k (.ref n) (.fl ys)
  | dct {n : Nat} {ks : List DK} {xs ys : List AV} : k ≤ n → S[n]? = some (.dct ks xs) → Frzs S k xs ys → Frz S k (.ref n) (.fd ks ys)
  | tup {xs ys : List AV} : Frzs S k xs ys → Frz S k (.tup xs) (.tup ys)
  | fl {xs ys : List AV} : Frzs S k xs ys → Frz S k (.fl xs) (.fl ys)
inductive Frzs (S : Sto) (k : Nat) : List AV → List AV → Prop
  | nil : Frzs S k [] []
  | cons {x y : AV} {xs ys : List AV} : Frz S k x y → Frzs S k xs ys → Frzs S k (x :: xs) (y :: ys)
end
abbrev MM.cut (m : MM) (k : Nat) : MM := ⟨m.c.take k, m.r⟩
section
variable {K : PySem.W.Frag} {H : Hp} {m : MM} {k : Nat}
theorem Pin.cut {a : Addr} {o : HO} (p : Pin H m a o) : Pin H (m.cut k) a o := ⟨p.1, fun z => p.2.1 (List.mem_of_mem_take z), p.2.2⟩
theorem AtT.cut {a : Addr} {vs : List V} (h : AtT K H m a vs) : AtT K H (m.cut k) a vs := Pin.cut h
theorem PinD.cut {a : Addr} {o : HO} (h : PinD H m a o) : PinD H (m.cut k) a o := h.imp Pin.cut fun ⟨b, z⟩ => ⟨b, z.cut⟩
theorem AtS.cut {a : Addr} {vs : List V} (h : AtS K H m a vs) : AtS K H (m.cut k) a vs := by
  rcases h with h | ⟨o, h⟩ | h
  · exact .inl h.cut
  · exact .inr (.inl ⟨o, h.cut⟩)
  · exact .inr (.inr h)
mutual
theorem RepV.cut : ∀ (x : AV) (v : V), ltV k x = true → RepV K H m x v → RepV K H (m.cut k) x v
  | .non, v, _, h => h
  | .bl b, v, _, h => h
  | .int i, v, _, h => h
  | .str x, v, _, h => h
  | .raw x, v, _, h => h
  | .ref n, v, l, h => by
    obtain ⟨a, h1, h2⟩ := h
    have l : n < k := of_decide_eq_true l
    exact ⟨a, by show (m.c.take k)[n]? = _; rw [List.getElem?_take, if_pos l]; exact h1, h2⟩
  | .tup xs, v, l, h => by
    obtain ⟨a, vs, h1, h2, h3, h4⟩ := h
    exact ⟨a, vs, h1, h2.cut, h3, RepVs.cut xs vs l h4⟩
  | .fl xs, v, l, h => by
    obtain ⟨a, vs, h1, h2, h3, h4⟩ := h
    exact ⟨a, vs, h1, h2.cut, h3, RepVs.cut xs vs l h4⟩
  | .sl xs, v, l, h => by
    obtain ⟨a, vs, h1, h2, h3, h4⟩ := h
    exact ⟨a, vs, h1, h2.cut, h3, RepVs.cut xs vs l h4⟩
  | .fd ks xs, v, l, h => by
    obtain ⟨a, o, h1, h2, hz, h3⟩ := h
    refine ⟨a, o, h1, h2.cut, hz, ?_⟩
    rcases h3 with ⟨kvs, e1, e2, h4⟩ | ⟨kvs, e1, e2, h4⟩
    · exact .inl ⟨kvs, e1, e2, RepVs.cut xs _ l h4⟩
    · exact .inr ⟨kvs, e1, e2, RepVs.cut xs _ l h4⟩
theorem RepVs.cut : ∀ (xs : List AV) (vs : List V), ltVs k xs = true → RepVs K H m xs vs → RepVs K H (m.cut k) xs vs
  | [], vs, _, h => h
  | x :: xs, vs, l, h => by
    obtain ⟨v, r, e, h1, h2⟩ := h
    have l : (ltV k x && ltVs k xs) = true := l
    rw [Bool.and_eq_true] at l
    exact ⟨v, r, e, RepV.cut x v l.1 h1, RepVs.cut xs r l.2 h2⟩
end
mutual
theorem RepV.ltV : ∀ (x : AV) (v : V), RepV K H m x v → m.c.length ≤ k → HA.ltV k x = true
  | .non, v, h, _ => rfl
  | .bl b, v, h, _ => rfl
  | .int i, v, h, _ => rfl
  | .str x, v, h, _ => rfl
  | .raw x, v, h, _ => rfl
  | .ref n, v, h, l => by
    obtain ⟨a, h1, h2⟩ := h
    obtain ⟨z, _⟩ := List.getElem?_eq_some_iff.mp h1
    exact decide_eq_true (by omega)
  | .tup xs, v, h, l => by
    obtain ⟨a, vs, h1, h2, h3, h4⟩ := h
    exact RepVs.ltV xs vs h4 l
  | .fl xs, v, h, l => by
    obtain ⟨a, vs, h1, h2, h3, h4⟩ := h
    exact RepVs.ltV xs vs h4 l
  | .sl xs, v, h, l => by
    obtain ⟨a, vs, h1, h2, h3, h4⟩ := h
    exact RepVs.ltV xs vs h4 l
  | .fd ks xs, v, h, l => by
    obtain ⟨a, o, h1, h2, hz, h3⟩ := h
    rcases h3 with ⟨kvs, e1, e2, h4⟩ | ⟨kvs, e1, e2, h4⟩
    · exact RepVs.ltV xs _ h4 l
    · exact RepVs.ltV xs _ h4 l
theorem RepVs.ltV : ∀ (xs : List AV) (vs : List V), RepVs K H m xs vs → m.c.length ≤ k → ltVs k xs = true
  | [], vs, h, _ => rfl
  | x :: xs, vs, h, l => by
    obtain ⟨v, r, e, h1, h2⟩ := h
    show (HA.ltV k x && ltVs k xs) = true
    rw [RepV.ltV x v h1 l, RepVs.ltV xs r h2 l]
    rfl
end
theorem RepC.lt {c : Cell} {a : Addr} (h : RepC K H m c a) (l : m.c.length ≤ k) : c.lt k = true := by
  cases c with
  | lst xs => obtain ⟨vs, _, _, h3⟩ := h; exact RepVs.ltV _ _ h3 l
  | dct ks xs =>
    obtain ⟨o, _, _, h3⟩ := h
    rcases h3 with ⟨kvs, _, _, h4⟩ | ⟨kvs, _, _, h4⟩
    · exact RepVs.ltV _ _ h4 l
    · exact RepVs.ltV _ _ h4 l
  | ins C fs => obtain ⟨dx, gs, _, _, h3⟩ := h; exact RepVs.ltV _ _ h3 l
  | gone => rfl
theorem RepC.cut {c : Cell} {a : Addr} (l : c.lt k = true) (h : RepC K H m c a) : RepC K H (m.cut k) c a := by
  cases c with
  | lst xs => obtain ⟨vs, h1, h2, h3⟩ := h; exact ⟨vs, h1, h2, RepVs.cut _ _ l h3⟩
  | dct ks xs =>
    obtain ⟨o, h1, h2, h3⟩ := h
    refine ⟨o, h1, h2, ?_⟩
    rcases h3 with ⟨kvs, e1, e2, h4⟩ | ⟨kvs, e1, e2, h4⟩
    · exact .inl ⟨kvs, e1, e2, RepVs.cut _ _ l h4⟩
    · exact .inr ⟨kvs, e1, e2, RepVs.cut _ _ l h4⟩
  | ins C fs => obtain ⟨dx, gs, h1, h2, h3⟩ := h; exact ⟨dx, gs, h1, h2, RepVs.cut _ _ l h3⟩
  | gone => exact h
theorem not_take {a : Addr} {n : Nat} (nd : m.c.Nodup) (h : m.c[n]? = some a) (hk : k ≤ n) : a ∉ m.c.take k := fun z => by
  obtain ⟨i, hi⟩ := List.mem_iff_getElem?.mp z
  rw [List.getElem?_take] at hi
  split at hi
  · have := (List.getElem?_inj (List.getElem?_eq_some_iff.mp hi).1 nd).mp (hi.trans h.symm)
    omega
  · cases hi
mutual
theorem Frz.rep {S : Sto} (r : RepS K H m S) : ∀ {x y : AV}, Frz S k x y → ∀ v, RepV K H m x v → RepV K H (m.cut k) y v
  | _, _, .same l, v, h => RepV.cut _ v l h
  | _, _, .lst (n := n) hk hn f, v, h => by
    obtain ⟨a, ha, ev⟩ := h
    obtain ⟨vs, h1, h2, h3⟩ := r.at_ n _ a hn ha
    exact ⟨a, vs, ev, ⟨h1, not_take r.nd ha hk, r.dj a (List.mem_of_getElem? ha)⟩, h2, Frzs.rep r f vs h3⟩
  | _, _, .dct (n := n) hk hn f, v, h => by
    obtain ⟨a, ha, ev⟩ := h
    obtain ⟨o, h1, h2, h3⟩ := r.at_ n _ a hn ha
    have fl : ∀ vs, RepVs K H m _ vs → RepVs K H (m.cut k) _ vs := fun vs q => Frzs.rep r f vs q
    refine ⟨a, o, ev, .inl ⟨h1, not_take r.nd ha hk, r.dj a (List.mem_of_getElem? ha)⟩, ?_, ?_⟩
    · rcases h3 with ⟨kvs, e1, e2, h4⟩ | ⟨kvs, e1, e2, h4⟩
      · rw [(fl _ h4).length, ← h4.length]; exact h2
      · rw [(fl _ h4).length, ← h4.length]; exact h2
    · rcases h3 with ⟨kvs, e1, e2, h4⟩ | ⟨kvs, e1, e2, h4⟩
      · exact .inl ⟨kvs, e1, e2, fl _ h4⟩
      · exact .inr ⟨kvs, e1, e2, fl _ h4⟩
  | _, _, .tup f, v, h => by
    obtain ⟨a, vs, h1, h2, h3, h4⟩ := h
    exact ⟨a, vs, h1, h2.cut, h3, Frzs.rep r f vs h4⟩
  | _, _, .fl f, v, h => by
    obtain ⟨a, vs, h1, h2, h3, h4⟩ := h
    exact ⟨a, vs, h1, h2.cut, h3, Frzs.rep r f vs h4⟩
theorem Frzs.rep {S : Sto} (r : RepS K H m S) : ∀ {xs ys : List AV}, Frzs S k xs ys → ∀ vs, RepVs K H m xs vs → RepVs K H (m.cut k) ys vs
  | _, _, .nil, vs, h => h
  | _, _, .cons f g, vs, h => by
    obtain ⟨v, r', e, h1, h2⟩ := h
    exact ⟨v, r', e, Frz.rep r f v h1, Frzs.rep r g r' h2⟩
end
end
/-- the cells behind the first j are dropped -/
structure Cut (S0 S : Sto) (j : Nat) : Prop where
  lo : S0.length ≤ j
  hi : j ≤ S.length
  at_ : ∀ (i : Nat) (c : Cell), i < j → S[i]? = some c → S0[i]? = some c ∨ c.lt j = true
def retQ (S0 : Sto) (Q : AQ) : AQ := fun v S => Q v S ∨ ∃ j w, Cut S0 S j ∧ Frz S j v w ∧ Q w (S.take j)
theorem retQ_rep {K : PySem.W.Frag} {H0 H : Hp} {m0 m : MM} {S0 S : Sto} {Q : AQ} {v : AV} {u : V} (r0 : RepS K H0 m0 S0) (st : Stp H0 m0 H m) (r : RepS K H m S) (h : RepV K H m v u) (q : retQ S0 Q v S) :
    ∃ m' S' w, Stp H0 m0 H m' ∧ RepS K H m' S' ∧ RepV K H m' w u ∧ Q w S' := by
  rcases q with q | ⟨j, w, c, f, q⟩
  · exact ⟨m, S, v, st, r, h, q⟩
  · refine ⟨m.cut j, S.take j, w, ?_, ?_, f.rep r u h, q⟩
    · refine ⟨?_, st.old, fun a ha => st.newc a (List.mem_of_mem_take ha), st.newr, st.keep, st.live⟩
      have l : m0.c.length ≤ j := by rw [r0.len]; exact c.lo
      exact List.prefix_take_iff.mpr ⟨st.pre, l⟩
    · refine ⟨?_, r.nd.sublist (List.take_sublist _ _), fun i d a e1 e2 => ?_, r.res, fun a ha => r.dj a (List.mem_of_mem_take ha)⟩
      · show (m.c.take j).length = (S.take j).length
        rw [List.length_take, List.length_take, r.len]
      · rw [List.getElem?_take] at e1
        have e2 : (m.c.take j)[i]? = some a := e2
        rw [List.getElem?_take] at e2
        split at e1
        · rename_i hi
          rw [if_pos hi] at e2
          have rc := r.at_ i d a e1 e2
          refine rc.cut ?_
          rcases c.at_ i d hi e1 with z | z
          · obtain ⟨a0, g1, g2⟩ := r0.ix z
            exact g2.lt (by rw [r0.len]; exact c.lo)
          · exact z
        · cases e1
/-! ### a def -/
def startA (n : Nat) (xs : List AV) : AEnv := xs.map some ++ List.replicate (n - xs.length) none
theorem repE_start {K : PySem.W.Frag} {H : Hp} {m : MM} {N : List Str} {xs : List AV} {vs : List V} (r : RepVs K H m xs vs) : RepE K H m (startA N.length xs) (L2.start N vs) := by
  have l := r.length
  refine ⟨by unfold startA L2.start; simp [l], fun i x e => ?_⟩
  unfold startA at e
  unfold L2.start
  by_cases hi : i < xs.length
  · rw [List.getElem?_append_left (by simpa using hi), List.getElem?_map] at e
    rw [List.getElem?_append_left (by rw [List.length_map]; omega), List.getElem?_map]
    obtain ⟨y, hy, e2⟩ := Option.map_eq_some_iff.mp e
    cases e2
    obtain ⟨v, g1, g2⟩ := r.get hy
    exact ⟨v, by rw [g1]; rfl, g2⟩
  · rw [List.getElem?_append_right (by simpa using hi), List.getElem?_replicate] at e
    split at e
    · cases e
    · cases e
section
variable {P : Program} {w : World} {K : PySem.W.Frag} {mg : Str → Option Value} {base : Heap}
theorem fnA {x qual : Str} {st : Stmt} {f : Addr} {fd : FuncData} {N ps : List Str} {k : Nat} {sp : SpA} {tb : ATS} (F : Fun K x qual st f fd) (Sc : FnScope N ps (defScope st)) (len : ∀ xs S Q, sp xs S Q → xs.length = ps.length)
    (hb : ∀ (cdv : Value) (A : Around) (outer : List Env) (s : Shared) (H : Hp) (E : XK), Room k (A.deeper (envOfC qual (defScope st) s.heap.objs.size f cdv)) → SSs (cxOf CX0 P w K mg base N qual (defScope st) f cdv A outer s H E).nox (defBody st) tb)
    (hw : ∀ xs S Q, sp xs S Q → tb { nx := fun _ S' => retQ S Q .non S', rt := retQ S Q } (startA N.length xs) S) : FnOk P w K mg base CX0 (k + 1) f fd ps (lSp K sp) := by
  refine F.ok Sc (fun vs H Q E h => ?_) (fun cdv A outer s H vs Q E hr h => ⟨lS K tb, hb cdv A outer s H E hr, ?_⟩)
  · obtain ⟨m, S, xs, QA, rS, rv, h, _⟩ := h
    rw [← rv.length]
    exact len xs S QA h
  · obtain ⟨m, S, xs, QA, rS, rv, h, fin⟩ := h
    refine ⟨m, S, startA N.length xs, _, rS, repE_start rv, hw xs S QA h, ⟨fun H' m' S' ρ' σ' st r e q => ?_, fun H' m' S' y v st r rv q => ?_, fun _ _ _ _ _ _ _ _ q => q.elim, fun _ _ _ _ _ _ _ _ q => q.elim⟩⟩
    · obtain ⟨m2, S2, y, s2, r2, v2, q2⟩ := retQ_rep rS st r (show RepV K H' m' .non .non from rfl) q
      exact fin H' m2 S2 y _ s2 r2 v2 q2
    · obtain ⟨m2, S2, y, s2, r2, v2, q2⟩ := retQ_rep rS st r rv q
      exact fin H' m2 S2 y _ s2 r2 v2 q2
/-- with no call left nothing is asked -/
theorem fn0 {f : Addr} {fd : FuncData} {k : Nat} {ps : List Str} {sp : SpA} (h : ∀ xs S Q, ¬ sp xs S Q) : FnOk P w K mg base CX0 k f fd ps (lSp K sp) := by
  have no : ∀ vs H Q E, ¬ lSp K sp vs H Q E := fun vs H Q E ⟨m, S, xs, QA, _, _, q, _⟩ => h xs S QA q
  exact ⟨fun vs H Q E q => absurd q (no vs H Q E), fun A outer s H args us vs Q E _ _ _ _ q => absurd q (no vs H Q E)⟩
/-- a weaker promise -/
theorem fn_imp {f : Addr} {fd : FuncData} {k : Nat} {ps : List Str} {sp sp' : SpA} (F : FnOk P w K mg base CX0 k f fd ps (lSp K sp)) (h : ∀ xs S Q, sp' xs S Q → sp xs S Q) : FnOk P w K mg base CX0 k f fd ps (lSp K sp') :=
  F.imp fun vs H Q E ⟨m, S, xs, QA, a, b, q, d⟩ => ⟨m, S, xs, QA, a, b, h _ _ _ q, d⟩
end
/-! ### cuts in an expression -/
def aCut (te : ATE) : ATE := fun ρ S Q => te ρ S (retQ S Q)
theorem se_cut {X : Cx} {e : Expr} {te : ATE} (h : SE X e te) : SE X e (aCut te) := PE.imp h fun σ H Q q => by
  obtain ⟨m, S, ρ, QA, rS, rE, q, fin⟩ := q
  refine ⟨m, S, ρ, _, rS, rE, q, fun H1 m1 S1 x v s1 rS1 rv1 q1 => ?_⟩
  obtain ⟨m2, S2, y, s2, r2, v2, q2⟩ := retQ_rep rS s1 rS1 rv1 q1
  exact fin H1 m2 S2 y v s2 r2 v2 q2
/-! ### the law's end -/
def spLawA (n : Nat) : SpA := fun xs _ Q => ∃ ns : List Int, xs = [.sl (ns.map AV.int)] ∧ ns.length ≤ n ∧ ∀ S', Q (.bl true) S'
theorem law_start {K : PySem.W.Frag} {H : Hp} {a : Addr} {ns : List Int} {n : Nat} {E : XK} (hn : ns.length ≤ n) (hz : n ≤ sizeLine) (h : SqL K H a (ns.map V.int)) : lSp K (spLawA n) [.ref a] H (fun v _ => v = .bl true) E := by
  refine ⟨⟨[], []⟩, [], [.sl (ns.map AV.int)], fun x _ => x = .bl true, ⟨rfl, List.nodup_nil, fun i c a e _ => by simp at e, fun a h => (nomatch h), fun a h => (nomatch h)⟩, ?_, ⟨ns, rfl, hn, fun _ => rfl⟩, fun H' m' S' x v _ _ r q => ?_⟩
  · refine ⟨.ref a, [], rfl, ⟨a, ns.map V.int, rfl, ?_, by rw [List.length_map]; omega, RepVs.of_map (f := AV.int) (g := V.int) (fun i => (rfl : V.int i = V.int i)) ns⟩, rfl⟩
    rcases h with (h | ⟨o, h⟩) | h
    · exact .inl ⟨h, by simp, by simp⟩
    · exact .inr (.inl ⟨o, h, by simp, by simp⟩)
    · exact .inr (.inr h)
  · subst q
    exact r
end HA

/-! Layer A, part 7: short words for the link terms: built-in names, callees, isinstance. -/
namespace HA
open PySem PySem.Spec PyProof.Rows L2

/-- the built-in names that the module leaves as they are -/
structure Blt (mg : Str → Option Value) : Prop where
  len_ : mg "len" = none
  max_ : mg "max" = none
  min_ : mg "min" = none
  sum_ : mg "sum" = none
  all_ : mg "all" = none
  any_ : mg "any" = none
  int_ : mg "int" = none
  bool_ : mg "bool" = none
  str_ : mg "str" = none
  list_ : mg "list" = none
  tuple_ : mg "tuple" = none
  dict_ : mg "dict" = none
  set_ : mg "set" = none
  range_ : mg "range" = none
  enumerate_ : mg "enumerate" = none
  zip_ : mg "zip" = none
  reversed_ : mg "reversed" = none
  sorted_ : mg "sorted" = none
  isinstance_ : mg "isinstance" = none
  divmod_ : mg "divmod" = none
theorem hu_room {k : Nat} {A : Around} (hr : Room k A) (hk : 50 ≤ k) : A.units + maxDep < cLine := by
  have := hr.un
  unfold maxDep
  omega
/-- a def that is called -/
structure Callee (P : Program) (w : World) (K : PySem.W.Frag) (mg : Str → Option Value) (base : Heap) (x : Str) (ps : List Str) (k : Nat) (sp : SpA) : Prop where
  ex : ∃ f fd, mg x = some (.ref f) ∧ PySem.W.keepIn K (.ref f) = true ∧ Binds K fd ps [] ∧ FnOk P w K mg base CX0 k f fd ps (lSp K sp)
theorem Callee.mono {P : Program} {w : World} {K : PySem.W.Frag} {mg : Str → Option Value} {base : Heap} {x : Str} {ps : List Str} {j k : Nat} {sp : SpA} (C : Callee P w K mg base x ps j sp) (h : j ≤ k) : Callee P w K mg base x ps k sp := by
  obtain ⟨f, fd, a, b, c, d⟩ := C.ex
  exact ⟨f, fd, a, b, c, d.mono h⟩
theorem Callee.imp {P : Program} {w : World} {K : PySem.W.Frag} {mg : Str → Option Value} {base : Heap} {x : Str} {ps : List Str} {k : Nat} {sp sp' : SpA} (C : Callee P w K mg base x ps k sp) (h : ∀ xs S Q, sp' xs S Q → sp xs S Q) : Callee P w K mg base x ps k sp' := by
  obtain ⟨f, fd, a, b, c, d⟩ := C.ex
  exact ⟨f, fd, a, b, c, fn_imp d h⟩
section
variable {X : Cx}
theorem Callee.se {k : Nat} {ps : List Str} {sp : SpA} {x : Str} {p pos : Pos} {e : Expr} {es : List Expr} {t : ATA} (C : Callee X.prog X.w X.K X.mg X.base x ps k sp) (hr : Room k X.A) (ha : SA X (e :: es) t) (hg : Gl X x := by rfl)
    (hdb : (x == ("__debug__" : Str)) = false := by decide) (he : starEach (e :: es) X.env = (false, eval e X.env) :: starEach es X.env := by rfl) (hpl : (backTo pos (starEach es X.env)).any (·.1) = false := by rfl) :
    SE X (.Call (.Name x p) (e :: es) [] pos) (aCall sp t) := by
  obtain ⟨f, fd, a, b, c, d⟩ := C.ex
  exact se_call d hr hg a b c pass0 ha hdb he hpl
theorem sv (i : Nat) {x : Str} {pos : Pos} (hN : X.N[i]? = some x := by rfl) (hv : Vis X.env.scope x := by first | exact Or.inl rfl | exact Or.inr (Or.inl rfl) | exact Or.inr (Or.inr rfl)) (hd : (x == ("__debug__" : Str)) = false := by decide)
    (hcd : (x == ("__classdict__" : Str)) = false := by decide) : SE X (.Name x pos) (aVar i) := se_var hN hv hd hcd
theorem se_ty {x : Str} {n : String} {pos : Pos} (hm : X.mg x = none) (hg : Gl X x := by rfl) (hv : bootBuiltins x = some (.type n) := by decide +kernel) (hn : x ≠ "__name__" := by decide) (hd : (x == ("__debug__" : Str)) = false := by decide) : SE X (.Name x pos) (aC (.raw (.ty n))) :=
  se_bltn (v := .ty n) hg hm hv rfl hn hd
end
/-! ### isinstance of a built-in class -/
def tyN (S : Sto) : AV → Option String
  | .non => some "NoneType"
  | .bl _ => some "bool"
  | .int _ => some "int"
  | .str _ => some "str"
  | .tup _ => some "tuple"
  | .fl _ => some "list"
  | .sl _ => some "list"
  | .fd (.k _ :: _) _ => some "dict"
  | .fd _ _ => none
  | .ref n => match S[n]? with
    | some (.lst _) => some "list"
    | some (.dct _ _) => some "dict"
    | _ => none
  | .raw _ => none
def isB (a b : String) : Bool := a == b || (a == "bool" && b == "int")
def rIsiA : RA
  | [x, .raw (.ty b)], S, Q => match tyN S x with
    | some a => kitB a b = some (isB a b) ∧ Q (.bl (isB a b)) S
    | none => False
  | _, _, _ => False
theorem rIsiA_of {xs : List AV} {S : Sto} {Q : AQ} (h : rIsiA xs S Q) : ∃ x a b, xs = [x, .raw (.ty b)] ∧ tyN S x = some a ∧ kitB a b = some (isB a b) ∧ Q (.bl (isB a b)) S := by
  unfold rIsiA at h
  split at h
  · split at h
    · exact ⟨_, _, _, rfl, by assumption, h.1, h.2⟩
    · exact h.elim
  · exact h.elim
theorem tyN_rep {K : PySem.W.Frag} {H : Hp} {m : MM} {S : Sto} {x : AV} {v : V} {a : String} (r : RepS K H m S) (h : RepV K H m x v) (e : tyN S x = some a) : TyX K H v (.type a) := by
  cases x with
  | non => cases h; cases e; exact .base .non
  | bl b => cases h; cases e; exact .base (.bl b)
  | int i => cases h; cases e; exact .base (.int i)
  | str z => cases h; cases e; exact .base (.str z)
  | raw u => exact nomatch e
  | tup xs =>
    cases e
    obtain ⟨p, vs, rfl, h1, _, _⟩ := h
    exact .base (.tup h1.1)
  | fl xs =>
    cases e
    obtain ⟨p, vs, rfl, h1, _, _⟩ := h
    exact .base (.lst h1.1)
  | sl xs =>
    cases e
    obtain ⟨p, vs, rfl, h1, _, _⟩ := h
    rcases h1 with h1 | ⟨o, h1⟩ | ⟨o, its, n, hk, hc, _⟩
    · exact .base (.lst h1.1)
    · exact .base (.frz h1.1)
    · exact .kList hk hc
  | fd ks xs =>
    cases ks with
    | nil => exact nomatch e
    | cons k ks =>
      cases k with
      | t q => exact nomatch e
      | k q =>
        cases e
        obtain ⟨p, o, rfl, h1, _, h2⟩ := h
        rcases h2 with ⟨kvs, rfl, _⟩ | ⟨kvs, ⟨rfl, _⟩, h3, _⟩
        · rcases h1 with h1 | ⟨b, h1⟩
          · exact .base (.dK h1.1)
          · exact .fDict h1.1
        · cases kvs with
          | nil => cases h3
          | cons z zs => cases h3
  | ref n =>
    obtain ⟨p, hp, rfl⟩ := h
    unfold tyN at e
    dsimp only at e
    split at e
    · rename_i xs hn
      cases e
      obtain ⟨vs, g1, _⟩ := r.at_ n _ p hn hp
      exact .base (.lst g1)
    · rename_i ks xs hn
      cases e
      obtain ⟨o, g1, _, g2⟩ := r.at_ n _ p hn hp
      rcases g2 with ⟨kvs, rfl, _⟩ | ⟨kvs, ⟨rfl, _⟩, _⟩
      · exact .base (.dK g1)
      · exact .base (.dT g1)
    · cases e
theorem cr_isiA {X : Cx} : CallR X (.builtin "isinstance") (lRs X.K rIsiA) := by
  intro pins s σ H xs us Q I r h
  obtain ⟨m, S, axs, QA, rS, hx, h, fin⟩ := h
  obtain ⟨x, a, b, e1, e2, e3, q⟩ := rIsiA_of h
  subst e1
  obtain ⟨v, u, ev, h1, h2⟩ := hx.two_of
  subst ev
  have h2 : u = .ty b := h2
  subst h2
  exact call_isi pins s σ H _ us Q I r ⟨v, .ty b, _, _, _, rfl, .ty b, tyN_rep rS h1 e2, kit_ty e3, fin.here (z := .bl (isB a b)) rS rfl q⟩
end HA

/-! Plain facts about the readings: loops over mapped lists, what is handed back. -/
namespace HA
open PySem PySem.Spec PyProof.Rows L2
def compStep (g : ATG) (tt : ATT) (te : ATE) (ρw : AEnv) (x : AV) (S : Sto) (Q : Option AV → Sto → Prop) : Prop :=
  g x ρw S fun ρ1 S1 => tt ρ1 S1 fun b S2 => match b with
    | true => te ρ1 S2 fun y S3 => Q (some y) S3
    | false => Q none S2
def compNext (GA : Sto → Prop) (g : ATG) (tt : ATT) (te : ATE) (ρw : AEnv) (xs acc : List AV) (Q : List AV → Sto → Prop) : Option AV → Sto → Prop
  | some y, S => compA GA g tt te ρw xs (acc ++ [y]) S Q
  | none, S => compA GA g tt te ρw xs acc S Q
theorem compA_cons {GA : Sto → Prop} {g : ATG} {tt : ATT} {te : ATE} {ρw : AEnv} {x : AV} {xs acc : List AV} {S : Sto} {Q : List AV → Sto → Prop} (hg : GA S) (h : compStep g tt te ρw x S (compNext GA g tt te ρw xs acc Q)) : compA GA g tt te ρw (x :: xs) acc S Q := ⟨hg, h⟩
/-- each item gives r of it, the store stays -/
theorem compA_map {α : Type} {GA : Sto → Prop} {g : ATG} {tt : ATT} {te : ATE} {ρw : AEnv} {e r : α → AV} : ∀ {l : List α} {xs acc : List AV} {S : Sto} {Q : List AV → Sto → Prop}, xs = l.map e → GA S → (∀ a ∈ l, ∀ Q', Q' (some (r a)) S → compStep g tt te ρw (e a) S Q') → Q (acc ++ l.map r) S → compA GA g tt te ρw xs acc S Q
  | [], _, acc, S, Q, rfl, hg, _, q => ⟨hg, by simpa using q⟩
  | a :: l, _, acc, S, Q, rfl, hg, h, q => by
    refine compA_cons hg (h a List.mem_cons_self _ ?_)
    exact compA_map (l := l) rfl hg (fun b hb => h b (List.mem_cons_of_mem _ hb)) (by simpa using q)
/-- .. or is left out -/
theorem compA_filterMap {α : Type} {GA : Sto → Prop} {g : ATG} {tt : ATT} {te : ATE} {ρw : AEnv} {e : α → AV} {r : α → Option AV} : ∀ {l : List α} {xs acc : List AV} {S : Sto} {Q : List AV → Sto → Prop}, xs = l.map e → GA S → (∀ a ∈ l, ∀ Q', Q' (r a) S → compStep g tt te ρw (e a) S Q') → Q (acc ++ l.filterMap r) S → compA GA g tt te ρw xs acc S Q
  | [], _, acc, S, Q, rfl, hg, _, q => ⟨hg, by simpa using q⟩
  | a :: l, _, acc, S, Q, rfl, hg, h, q => by
    refine compA_cons hg (h a List.mem_cons_self _ ?_)
    cases hr : r a with
    | none => exact compA_filterMap (l := l) rfl hg (fun b hb => h b (List.mem_cons_of_mem _ hb)) (by simpa [hr] using q)
    | some y => exact compA_filterMap (l := l) rfl hg (fun b hb => h b (List.mem_cons_of_mem _ hb)) (by simpa [hr] using q)
/-- a loop by an invariant over what is done -/
theorem forA_inv {α : Type} {GA : Sto → Prop} {g : ATG} {tb : ATS} {e : α → AV} {D : AEnds} (I : List α → AEnv → Sto → Prop) (hG : ∀ l ρ S, I l ρ S → GA S) : ∀ {l : List α} {done : List α} {xs : List AV} {ρ : AEnv} {S : Sto}, xs = l.map e → I done ρ S →
    (∀ d a r ρ S, done ++ l = d ++ a :: r → I d ρ S → ∀ nx : AEnv → Sto → Prop, (∀ ρ' S', I (d ++ [a]) ρ' S' → nx ρ' S') → g (e a) ρ S fun ρ1 S1 => tb { nx := nx, rt := D.rt, bk := D.nx, ct := nx } ρ1 S1) →
    (∀ ρ S, I (done ++ l) ρ S → D.nx ρ S) → forA GA g tb xs D ρ S
  | [], done, _, ρ, S, rfl, h, _, q => ⟨hG _ _ _ h, q ρ S (by simpa using h)⟩
  | a :: l, done, _, ρ, S, rfl, h, hs, q => by
    refine ⟨hG _ _ _ h, ?_⟩
    refine hs done a l ρ S rfl h _ fun ρ' S' h' => ?_
    exact forA_inv I hG (l := l) (done := done ++ [a]) rfl h' (fun d b r ρ S e => hs d b r ρ S (by rw [← e]; simp)) fun ρ S h => q ρ S (by simpa using h)
end HA

/-! Ways into the readings. -/
namespace HA
open PySem PySem.Spec PyProof.Rows L2
section
variable {S : Sto} {Q : AQ} {x y : AV} {xs ys zs : List AV} {n : Nat}
theorem rList1_i {α : Type} {f : List AV → Option α} {g : α → AV} {a : α} (e1 : asL S x = some xs) (e2 : f xs = some a) (q : Q (g a) S) : rList1 f g [x] S Q := by
  unfold rList1
  dsimp only
  rw [e1]
  dsimp only
  rw [e2]
  exact q
theorem seqA_fl : seqA S (.fl xs) = some xs := rfl
theorem seqA_of {o : Option (List AV)} (e : seqA S x = o) (hx : ∀ ys, x ≠ .tup ys) : asL S x = o := by
  unfold seqA at e
  split at e
  · exact absurd rfl (hx _)
  · exact e
theorem asL_ref (h : S[n]? = some (.lst xs)) : asL S (.ref n) = some xs := by
  show (match S[n]? with
    | some (.lst xs) => some xs
    | _ => none) = _
  rw [h]
theorem asM_ref (h : S[n]? = some (.lst xs)) : asM S (.ref n) = some xs := asL_ref h
theorem seqA_ref (h : S[n]? = some (.lst xs)) : seqA S (.ref n) = some xs := asL_ref h
theorem rIxA_i {i : Int} (e1 : seqA S x = some xs) (e2 : ixA xs i = some y) (q : Q y S) : rIxA x (.int i) S Q := by
  unfold rIxA
  split
  · exact absurd e1 (by simp [seqA, asL, asM])
  · rename_i h
    cases h
    rw [e1]
    dsimp only
    rw [e2]
    exact q
  · rename_i h1 h2
    first | exact (h2 _ rfl).elim | exact (h1 _ rfl).elim
theorem rIxA_str {i : Int} {z : Str} {c : Nat} (hz : z.length ≤ sizeLine) (e : ixA z.cps.toList i = some c) (q : Q (.str ⟨#[c]⟩) S) : rIxA (.str z) (.int i) S Q := by
  unfold rIxA
  dsimp only
  refine ⟨hz, ?_⟩
  rw [e]
  exact q
theorem rAddL_i (hx : asM S x = some xs) (hy : asM S y = some ys) (hz : xs.length + ys.length ≤ sizeLine) (q : Q (.fl (xs ++ ys)) S) : rAddA x y S Q := by
  cases x with
  | fl a => cases y with
    | fl b => unfold rAddA; dsimp only; rw [hx, hy]; exact ⟨hz, q⟩
    | ref b => unfold rAddA; dsimp only; rw [hx, hy]; exact ⟨hz, q⟩
    | _ => exact nomatch hy
  | ref a => cases y with
    | fl b => unfold rAddA; dsimp only; rw [hx, hy]; exact ⟨hz, q⟩
    | ref b => unfold rAddA; dsimp only; rw [hx, hy]; exact ⟨hz, q⟩
    | _ => exact nomatch hy
  | _ => exact nomatch hx
theorem rEqA_i {neg : Bool} {a b : AV} (hx : unref S x = a) (hy : unref S y = b) (k1 : okD a = true) (k2 : okD b = true) (k3 : min (dat a).depth (dat b).depth ≤ maxDep) (q : Q (.bl (neg ^^ eqD a b)) S) : rEqA neg x y S Q := by
  subst hx; subst hy
  unfold rEqA
  split
  · rename_i u v
    have e : eqD (unref S (.str u)) (unref S (.str v)) = (u == v) := by show PyData.eqv (.str u) (.str v) = _; simp [PyData.eqv]
    rw [e] at q
    exact q
  · rename_i u v
    have e : eqD (unref S (.int u)) (unref S (.int v)) = (u == v) := by show PyData.eqv (.int u) (.int v) = _; simp [PyData.eqv]
    rw [e] at q
    exact q
  · exact ⟨⟨k1, k2, k3⟩, q⟩
theorem rMut_i {f : List AV → List AV → Option (AV × List AV)} {z : AV} (h : S[n]? = some (.lst xs)) (e : f xs ys = some (z, zs)) (hz : zs.length ≤ sizeLine) (q : Q z (S.set n (.lst zs))) : rMutA f (.ref n) ys S Q := by
  unfold rMutA
  dsimp only
  rw [h]
  dsimp only
  rw [e]
  exact ⟨hz, q⟩
theorem rExt_i (h : S[n]? = some (.lst xs)) (e : asM S y = some zs) (hz : xs.length + zs.length ≤ sizeLine) (q : Q .non (S.set n (.lst (xs ++ zs)))) : rExtA (.ref n) [y] S Q := by
  unfold rExtA
  dsimp only
  rw [h, e]
  exact ⟨hz, q⟩
theorem rTup_i (e : seqA S x = some xs) (q : Q (.tup xs) S) : rTupA [x] S Q := by
  unfold rTupA
  dsimp only
  rw [e]
  exact q
theorem rLstF_i (e : seqA S x = some xs) (q : Q (.fl xs) S) : rListA false [x] S Q := by
  unfold rListA
  dsimp only
  rw [e]
  exact q
theorem rLen_ref (h : S[n]? = some (.lst xs)) (q : Q (.int xs.length) S) : rLenA [.ref n] S Q := by
  show (match lenA S (.ref n) with
    | some n => Q (.int n) S
    | none => False)
  have e : lenA S (.ref n) = some xs.length := by
    show (match S[n]? with
    | some (.lst xs) => some xs.length
    | _ => none) = _
    rw [h]
  rw [e]
  exact q
theorem rSetL_i {i : Int} {j : Nat} (h : S[n]? = some (.lst xs)) (e : ixN xs.length i = some j) {R : Sto → Prop} (q : R (S.set n (.lst (xs.set j x)))) : rSetLA (.ref n) (.int i) x S R := by
  unfold rSetLA
  dsimp only
  rw [h]
  dsimp only
  rw [e]
  exact q
theorem rJoin_i {a : Str} {ws : List Str} (e1 : seqA S y = some ys) (e2 : strs? ys = some ws) (hz : (ws.map (·.length)).sum + ws.length * a.length ≤ 16777216) (q : Q (.str (Txt.join a ws)) S) : rJoinA (.str a) [y] S Q := by
  unfold rJoinA
  dsimp only
  rw [e1]
  dsimp only
  rw [e2]
  exact ⟨hz, q⟩
theorem aMtL_i {r : RM} {to : ATE} {t : ATA} {ρ : AEnv} (h : to ρ S fun x S1 => (∃ zs, asL S1 x = some zs) ∧ t ρ S1 fun ws S2 => r x ws S2 Q) (mono : ∀ Q1 Q2 : AQ, (∀ v S', Q1 v S' → Q2 v S') → to ρ S Q1 → to ρ S Q2) : aMtL r to t ρ S Q := by
  unfold aMtL
  refine mono _ _ (fun v S' hq => ?_) h
  obtain ⟨⟨zs, e⟩, q⟩ := hq
  rw [e]
  exact q
/-- a method of a list that a name holds -/
theorem mtVar_i {r : RM} {i : Nat} {t : ATA} {ρ : AEnv} (hr : ρ[i]? = some (some x)) (hx : asL S x = some xs) (q : t ρ S fun ws S2 => r x ws S2 Q) : aMtL r (aVar i) t ρ S Q := by
  unfold aMtL aVar
  rw [hr]
  dsimp only
  rw [hx]
  exact q
theorem var_i {i : Nat} {ρ : AEnv} (hr : ρ[i]? = some (some x)) (q : Q x S) : aVar i ρ S Q := by
  unfold aVar
  rw [hr]
  exact q
theorem app_i {i n : Nat} {te : ATE} {ρ : AEnv} (hr : ρ[i]? = some (some (.ref n))) (hx : S[n]? = some (.lst xs)) (q : te ρ S fun y S1 => rMutA fAppend (.ref n) [y] S1 Q) : aMtL (rMutA fAppend) (aVar i) (aCons te aNil) ρ S Q := mtVar_i hr (asL_ref hx) q
theorem appM_i {n : Nat} (hx : S[n]? = some (.lst xs)) (hz : xs.length + 1 ≤ sizeLine) (q : Q .non (S.set n (.lst (xs ++ [y])))) : rMutA fAppend (.ref n) [y] S Q := rMut_i hx rfl (by rw [List.length_append]; exact hz) q
theorem ixVV_i {i j : Nat} {k : Int} {ρ : AEnv} (h1 : ρ[i]? = some (some x)) (h2 : ρ[j]? = some (some (.int k))) (e1 : seqA S x = some xs) (e2 : ixA xs k = some y) (q : Q y S) : aOp rIxA (aVar i) (aVar j) ρ S Q := by
  unfold aOp
  refine var_i h1 (var_i h2 (rIxA_i e1 e2 q))
theorem iter_i {t : ATE} {ρ : AEnv} {R : List AV → (Sto → Prop) → Sto → Prop} (mono : t ρ S fun x S1 => ∃ zs, seqA S1 x = some zs ∧ R zs (guardA x zs) S1) (m : ∀ Q1 Q2 : AQ, (∀ v S', Q1 v S' → Q2 v S') → t ρ S Q1 → t ρ S Q2) : aIter t ρ S R := by
  unfold aIter
  refine m _ _ (fun v S' hq => ?_) mono
  obtain ⟨zs, e, q⟩ := hq
  rw [e]
  exact q
end
/-! ### stores -/
theorem sto_new (S : Sto) (c : Cell) : (S ++ [c])[S.length]? = some c := by simp
theorem sto_set {S : Sto} {n : Nat} {c d : Cell} (h : S[n]? = some c) : (S.set n d)[n]? = some d := by
  rw [List.getElem?_set_self (List.getElem?_eq_some_iff.mp h).1]
theorem snoc_set (S : Sto) (c d : Cell) : (S ++ [c]).set S.length d = S ++ [d] := by simp
/-- what is returned is kept, what stands behind is dropped -/
theorem ret_cut {S0 S : Sto} {Q : AQ} {v w : AV} {T : List Cell} (e : S = S0 ++ T) (f : Frz S S0.length v w) (q : Q w S0) : retQ S0 Q v S := by
  subst e
  refine .inr ⟨S0.length, w, ⟨Nat.le_refl _, by simp, fun i c hi h => .inl ?_⟩, f, ?_⟩
  · rw [List.getElem?_append_left hi] at h
    exact h
  · rw [List.take_left]
    exact q
/-! ### values with no cells -/
mutual
def noRef : AV → Bool
  | .ref _ => false
  | .tup xs => noRefs xs
  | .fl xs => noRefs xs
  | .sl xs => noRefs xs
  | .fd _ xs => noRefs xs
  | _ => true
def noRefs : List AV → Bool
  | [] => true
  | x :: xs => noRef x && noRefs xs
end
mutual
theorem ltV_of {k : Nat} : ∀ x, noRef x = true → ltV k x = true
  | .non, _ => rfl
  | .bl _, _ => rfl
  | .int _, _ => rfl
  | .str _, _ => rfl
  | .raw _, _ => rfl
  | .ref _, h => nomatch h
  | .tup xs, h => ltVs_of xs h
  | .fl xs, h => ltVs_of xs h
  | .sl xs, h => ltVs_of xs h
  | .fd _ xs, h => ltVs_of xs h
theorem ltVs_of {k : Nat} : ∀ xs, noRefs xs = true → ltVs k xs = true
  | [], _ => rfl
  | x :: xs, h => by
    have h : (noRef x && noRefs xs) = true := h
    rw [Bool.and_eq_true] at h
    show (ltV k x && ltVs k xs) = true
    rw [ltV_of x h.1, ltVs_of xs h.2]
    rfl
end
mutual
theorem noRef_ok : ∀ x, okD x = true → noRef x = true
  | .non, _ => rfl
  | .bl _, _ => rfl
  | .int _, _ => rfl
  | .str _, _ => rfl
  | .raw _, _ => rfl
  | .ref _, h => nomatch h
  | .tup xs, h => noRefs_ok xs h
  | .fl xs, h => noRefs_ok xs h
  | .sl xs, h => noRefs_ok xs h
  | .fd _ xs, h => nomatch h
theorem noRefs_ok : ∀ xs, okDs xs = true → noRefs xs = true
  | [], _ => rfl
  | x :: xs, h => by
    have h : (okD x && okDs xs) = true := h
    rw [Bool.and_eq_true] at h
    show (noRef x && noRefs xs) = true
    rw [noRef_ok x h.1, noRefs_ok xs h.2]
    rfl
end
/-- data are handed back as they are -/
theorem ret_dat {S0 : Sto} {Q : AQ} {v : AV} {T : List Cell} (h : noRef v = true) (q : Q v S0) : retQ S0 Q v (S0 ++ T) := ret_cut rfl (.same (ltV_of v h)) q
end HA

/-! Sorting, part 1: tuples as keys, the empty one among them. -/
namespace HA
open PySem PySem.Spec PySem.Calls PySem.SeqAt PyProof.Rows PySem.W
section
variable {prog : Program} {w : World} {A : Around} {E : Value → Shared → Prop} {s : Shared}
theorem call_tupLt {Q : Value → Shared → Prop} {l b : Addr} {xs ys : Array Value} {e r : Nat → Bool} (hl : s.heap.IsTuple l xs) (hb : s.heap.IsTuple b ys)
    (he : ∀ j (h1 : j < xs.size) (h2 : j < ys.size), EqAt A.in1 s xs[j] ys[j] (e j)) (hr : ∀ j (h1 : j < xs.size) (h2 : j < ys.size), e j = false → RcLt A.in1 s xs[j] ys[j] (r j))
    (h : Q (.bool (firstLt e r (decide (xs.size < ys.size)) (List.range (min xs.size ys.size)))) s) : wpAny (model prog w) A (call (.builtin "tuple.__lt__") [.ref l, .ref b]) Q E s := by
  obtain ⟨⟨c1, p1, q1, z1⟩, g1, k1, n1, d1⟩ := id hl
  obtain ⟨⟨c2, p2, q2, z2⟩, g2, k2, n2, d2⟩ := id hb
  simp only at k1 d1 k2 d2
  subst k1 d1 k2 d2
  exact call_meets F.slot_tuple_lt ⟨_, g1, rfl⟩ F.entry_tuple_lt (F.args_tuple_lt_2 _ _) (SeqAt.tuple_ltAt l b xs ys n1 n2 p1 p2 z1 z2 e r) ⟨g1, g2, he, hr, h⟩
theorem oneLt_tup {f : Bool} {xs ys : List PyData} {a b : Value} {as bs : List Addr} {Q : Bool → Shared → Prop} (ra : Reads s.heap a (.tuple xs) as) (rb : Reads s.heap b (.tuple ys) bs) (h : PySem.W.alike (.tuple xs) (.tuple ys) = true)
    (hu : A.units + min (PyData.tuple xs).depth (PyData.tuple ys).depth < cLine) (hq : Q (dataLt (.tuple xs) (.tuple ys)) s) : wpAny (model prog w) A (oneLt' f a b) Q E s := by
  cases f with
  | false => exact oneLt_alike (fun z => nomatch z) ra rb h (fun z => nomatch z) hu hq
  | true =>
    have hal : alikeAll xs ys = true := by simpa [PySem.W.alike] using h
    cases ra with
    | @tuple l o vs n _ as₁ h1 h2 h3 h4 =>
      cases rb with
      | @tuple l' o' us n' _ bs₁ k1 k2 k3 k4 =>
        have n1 : vs.size = xs.length := by simpa using ReadsAll.length _ _ _ h4
        have n2 : us.size = ys.length := by simpa using ReadsAll.length _ _ _ k4
        rw [dataLt_tuple, ← firstLt_toks xs ys hal, ← n1, ← n2] at hq
        rw [oneLt'_eq, if_pos rfl]
        refine wpAny_bind (wpAny_cRoomFor (SeqAt.room_here hu) ?_)
        refine wpAny_bind (wpAny_callSpecialIfBound?_slot (T := "tuple") ⟨_, h1, h2⟩ F.slot_tuple_lt (call_tupLt (e := pairEq xs ys) (r := fun j => dataLt (xs.getD j .none) (ys.getD j .none)) ⟨_, h1, h2, _, h3⟩ ⟨_, k1, k2, _, k3⟩ (fun j j1 j2 => ?_) (fun j j1 j2 hj => ?_) ?_))
        · have := eqAt_alikeAll xs ys A.in1 s vs.toList us.toList _ _ h4 k4 hal (room_in hu) j (by simpa using j1) (by simpa using j2)
          simpa using this
        · have := rcLt_alikeAll xs ys A.in1 s vs.toList us.toList _ _ h4 k4 hal (room_in hu) j (by simpa using j1) (by simpa using j2) hj
          simpa using this
        · exact wpAny_truthy_bool hq
theorem firsts_some : ∀ {vs : List Value} {ds : List PyData}, EachIs (fun v d => ∃ as, Reads s.heap v d as) vs ds → (∀ d ∈ ds, ∃ xs, d = .tuple xs) → ∃ fs : List (Option Value), fs.length = vs.length ∧ (PyData.tuple [] ∈ ds → none ∈ fs) ∧
    ∀ (M : Model) (E : Value → Shared → Prop) (Q : List (Option Value) → Shared → Prop), Q fs s → wpAny M A (vs.mapM firstOfTuple') Q E s
  | _, _, .nil, _ => ⟨[], rfl, (fun z => absurd z List.not_mem_nil), fun M E Q h => by rw [List.mapM_nil]; exact wpAny_pure h⟩
  | _, _, .cons (b := d) ⟨as, r⟩ t, hd => by
    obtain ⟨fs, h1, h2, h3⟩ := firsts_some t fun d z => hd d (List.mem_cons_of_mem _ z)
    obtain ⟨xs, rfl⟩ := hd d List.mem_cons_self
    cases r with
    | @tuple a o vs n _ _ ho hc hv hr =>
      refine ⟨vs[0]? :: fs, by rw [List.length_cons, List.length_cons, h1], fun z => ?_, fun M E Q h => ?_⟩
      · rcases List.mem_cons.mp z with z | z
        · cases z
          have l : vs.toList.length = 0 := ReadsAll.length _ _ _ hr
          have l : vs.size = 0 := by simpa using l
          rw [Array.getElem?_eq_none (by omega)]
          exact List.mem_cons_self
        · exact List.mem_cons_of_mem _ (h2 z)
      · rw [List.mapM_cons]
        refine wpAny_bind ?_
        rw [kas_first_eq]
        refine wpAny_bind (Looks.here (show Looks M s.heap (typeOf (.ref a)) o.cls from (Looks.ld ho).andThen .now) ?_)
        rw [hc, if_neg (by first | decide | simp)]
        refine wpAny_bind (listItems_at ho hv (wpAny_pure ?_))
        exact wpAny_bind (h3 M E (fun bs s' => wpAny M A (pure (vs[0]? :: bs)) Q E s') (wpAny_pure h))
theorem tup_looks {M : Model} {v : Value} {d : PyData} {as : List Addr} (r : Reads s.heap v d as) (h : ∃ xs, d = .tuple xs) : Looks M s.heap (typeOf v) (Value.type "tuple") := by
  obtain ⟨xs, rfl⟩ := h
  exact looks_reads r
theorem kind_mixed {fs : List (Option Value)} {vs : List Value} {ds : List PyData} (e : EachIs (fun v d => ∃ as, Reads s.heap v d as) vs ds) (hd : ∀ d ∈ ds, ∃ xs, d = .tuple xs) (h2 : 2 ≤ vs.length) (hn : none ∈ fs)
    (hf : ∀ (M : Model) (E : Value → Shared → Prop) (Q : List (Option Value) → Shared → Prop), Q fs s → wpAny M A (vs.mapM firstOfTuple') Q E s) {M : Model} {Q : SortKind → Shared → Prop}
    (h : Q (if (fs.toArray[0]?.bind id).isSome then general' else oneType') s) : wpAny M A (keyKind' vs.toArray) Q E s := by
  rw [kat_kind_eq, List.mapM_toArray, map_eq_pure_bind]
  refine wpAny_bind (wpAny_bind (hf _ _ _ (wpAny_pure ?_)))
  have ha : (fs.toArray.all fun x => x.isSome) = false := by
    rw [List.all_toArray, List.all_eq_false]
    exact ⟨none, hn, by simp⟩
  rw [if_neg (by rw [ha]; exact Bool.false_ne_true)]
  by_cases hs : (fs.toArray[0]?.bind id).isSome = true
  · rw [if_pos hs] at h ⊢
    exact wpAny_pure h
  · rw [if_neg hs] at h ⊢
    rw [oneTypeOnly'_eq, List.mapM_toArray, map_eq_pure_bind]
    refine wpAny_bind (wpAny_bind (wpAny_bind (kas_mapM (r := Value.type "tuple") _ (fun v hv Q' hq => ?_) (wpAny_pure ?_))))
    · obtain ⟨d, m, as, r⟩ := e.left v hv
      exact (tup_looks r (hd d m)).here hq
    · have hx : ((List.map (fun _ => Value.type "tuple") vs).toArray.all fun x => x == Value.type "tuple") = true := by
        simp only [List.all_toArray, List.all_map, List.all_eq_true]
        intro _ _
        rfl
      have h0 : (List.map (fun _ => Value.type "tuple") vs).toArray[0]? = some (Value.type "tuple") := by
        cases vs with
        | nil => simp at h2
        | cons v vs => simp
      rw [h0]
      simp only [hx, if_true]
      exact wpAny_pure (wpAny_pure h)
/-- tuples as keys, also empty ones -/
theorem sortsTup {vs : List Value} {ds : List PyData} (e : EachIs (fun v d => ∃ as, Reads s.heap v d as) vs ds) (hal : AllAlike ds) (hd : ∀ d ∈ ds, ∃ xs, d = .tuple xs) (hu : ∀ d ∈ ds, A.units + d.depth < cLine) : SortsAt prog w A s (dataKind s.heap ds) vs := by
  by_cases hm : PyData.tuple [] ∈ ds
  · obtain ⟨fs, _, h2, h3⟩ := firsts_some (A := A) e hd
    refine ⟨fun v hv => ?_, if (fs.toArray[0]?.bind id).isSome then general' else oneType', ?_, fun l E Q hq => kind_mixed e hd l (h2 hm) h3 hq⟩
    · obtain ⟨d, m, as, r⟩ := e.left v hv
      exact ⟨_, dataKind_some hal m r⟩
    · intro E x y a b Q ha hb hq
      obtain ⟨d, as, m, ra, rfl⟩ := dataKind_inv ha
      obtain ⟨d', as', m', rb, rfl⟩ := dataKind_inv hb
      have al := hal d m d' m'
      have rm : A.units + min d.depth d'.depth < cLine := by have := hu d m; omega
      obtain ⟨xs, rfl⟩ := hd d m
      obtain ⟨ys, rfl⟩ := hd d' m'
      have hq' : Q (dataLt (.tuple xs) (.tuple ys)) s := hq
      split
      · exact oneLt_tup (f := false) ra rb al rm hq'
      · exact oneLt_tup (f := true) ra rb al rm hq'
  · refine SortsAt.data e hal (.inl fun d m => ?_) hu
    obtain ⟨xs, rfl⟩ := hd d m
    cases xs with
    | nil => exact absurd m hm
    | cons x r => exact ⟨x, r, rfl⟩
end
end HA

/-! Sorting, part 2: sorted(xs, key=f) where f is a def that only reads. -/
namespace HA
open PySem PySem.Spec PySem.Calls PySem.SeqAt PyProof.Rows PySem.W L2

/-- two of our own records may have turned, one is tracked from now on -/
theorem inv_two {X : Cx} {pins : List (Addr × Obj)} {σ : L2.St} {H : Hp} {s : Shared} {h' : Heap} {t' : Nat} {p q : Addr} {o : HO} (I : Inv X pins σ H s) (k : ∀ b ob, b ≠ p → b ≠ q → s.heap.get? b = some ob → h'.get? b = some ob)
    (f : FpOk X pins H p) (g : FpOk X pins H q) (hpq : q ≠ p) (new : ObjOk X.prog X.w (upd H p o) h' p o) : Inv X pins σ (upd H p o) { s with heap := h', toks := t' } := by
  obtain ⟨n1, L1, _, a1, b1, c1⟩ := f
  obtain ⟨n2, L2, _, a2, b2, c2⟩ := g
  have np : ∀ b u, H b = some u → b ≠ p := fun b u e z => by rw [z, n1] at e; cases e
  have nq : ∀ b u, H b = some u → b ≠ q := fun b u e z => by rw [z, n2] at e; cases e
  have up : ∀ b u, H b = some u → upd H p o b = some u := fun b u e => by rw [upd_ne (np b u e)]; exact e
  have kk : ∀ b ob, b ∉ [p, q] → s.heap.get? b = some ob → h'.get? b = some ob := fun b ob hc e => k b ob (fun z => hc (by simp [z])) (fun z => hc (by simp [z])) e
  refine I.step (g' := s.gens) (d' := s.drawn) (ch := [p, q]) (fun b hb => ?_) (fun b ob _ _ hc e _ => kk b ob hc e) (fun b ob _ _ hc e _ => ⟨ob.slots, kk b ob hc e⟩)
    (fun b ob hc _ n => by rw [upd_ne (fun z => hc (by simp [z]))]; exact n) (fun b ob hc e => ⟨ob, kk b ob hc e⟩) (fun b _ e => up b _ e) (fun b _ _ e => up b _ e) (fun b ps e => ⟨#[], by rw [up b _ e]; simp⟩) (fun m hm => ?_) (fun b u e => ?_) I.bare
  · have hb : b = p ∨ b = q := by simpa using hb
    rcases hb with e | e
    · subst e
      exact ⟨a1, L1, b1, c1⟩
    · subst e
      exact ⟨a2, L2, b2, c2⟩
  · obtain ⟨ob, es, ep, ho, r⟩ := hm
    exact ⟨ob, es, ep, k _ ob (Ne.symm L1) (Ne.symm L2) ho, r⟩
  · by_cases hb : b = p
    · rw [hb, upd_same] at e
      cases e
      rw [hb]
      exact new
    · rw [upd_ne hb] at e
      refine (I.hok b u e).stay (fun c v hc z => k c v ?_ ?_ z) (fun c z => up c _ z) fun c _ z => up c _ z
      · rcases hc with z | z
        · rw [z]; exact hb
        · exact np c _ z
      · rcases hc with z | z
        · rw [z]; exact nq b u e
        · exact nq c _ z
section
variable {X : Cx} {pins : List (Addr × Obj)} {σ : L2.St} {H : Hp} {s : Shared}
theorem FpOk.here {b : Addr} {H' : Hp} (f : FpOk X pins H b) (h : H' b = none) : FpOk X pins H' b := ⟨h, f.2⟩
theorem pin2 {p q : Addr × Obj} {H' : Hp} {s' : Shared} (I : Inv X (p :: q :: pins) σ H' s') : Inv X pins σ H' s' ∧ (s'.heap.get? p.1 = some p.2 ∧ H' p.1 = none) ∧ (s'.heap.get? q.1 = some q.2 ∧ H' q.1 = none) := by
  have a := I.pin p (List.mem_append_right _ (.head _))
  have b := I.pin q (List.mem_append_right _ (.tail _ (.head _)))
  exact ⟨I.pins_of fun r hr => I.pin r (List.mem_append_right _ (.tail _ (.tail _ hr))), ⟨a.1, a.2.1⟩, b.1, b.2.1⟩
theorem pin2_of {p q : Addr × Obj} {H' : Hp} {s' : Shared} (I : Inv X pins σ H' s') (f : FpOk X pins H' p.1) (g : FpOk X pins H' q.1) (h1 : s'.heap.get? p.1 = some p.2) (h2 : s'.heap.get? q.1 = some q.2) (k1 : ∀ v, p.2.data ≠ .cell v) (k2 : ∀ v, q.2.data ≠ .cell v) : Inv X (p :: q :: pins) σ H' s' :=
  I.pins_of fun r hr => by
    rcases List.mem_cons.mp hr with e | hr
    · rw [e]; exact ⟨h1, f.1, f.2.1, f.2.2.1, k1⟩
    · rcases List.mem_cons.mp hr with e | hr
      · rw [e]; exact ⟨h2, g.1, g.2.1, g.2.2.1, k2⟩
      · exact I.pin r (List.mem_append_right _ hr)
/-- how far the keys are made -/
def KI (X : Cx) (pins : List (Addr × Obj)) (σ : L2.St) (H : Hp) (m : MM) (S : Sto) (kS a : Addr) (e1 : Nat) (ys : List AV) (ks : List Value) (s' : Shared) : Prop :=
  ∃ e H' m', Inv X ((kS, seqObj "list" ks.toArray e) :: (a, seqObj "list" #[] e1) :: pins) σ H' s' ∧ FpOk X pins H' kS ∧ FpOk X pins H' a ∧ Stp H m H' m' ∧ RepS X.K H' m' S ∧ ∃ kvs, Vals kvs ks ∧ RepVs X.K H' m' (ys.take ks.length) kvs
variable {m : MM} {S : Sto} {kS a : Addr} {e1 : Nat} {ys : List AV} {ks : List Value} {s' : Shared}
theorem KI.push {H' : Hp} {m' : MM} {e : Nat} {y : AV} {v : V} {u : Value} {h' : Heap} {t' : Nat} (I : Inv X ((kS, seqObj "list" ks.toArray e) :: (a, seqObj "list" #[] e1) :: pins) σ H' s') (f : FpOk X pins H' kS) (g : FpOk X pins H' a) (hka : kS ≠ a)
    (st : Stp H m H' m') (rS : RepS X.K H' m' S) {kvs : List V} (rk : Vals kvs ks) (ry : RepVs X.K H' m' (ys.take ks.length) kvs) (hy : ys[ks.length]? = some y) (rv : RepV X.K H' m' y v) (ru : RelV v u)
    (k : ∀ b o, b ≠ kS → s'.heap.get? b = some o → h'.get? b = some o) {e' : Nat} (hn : h'.get? kS = some (seqObj "list" (ks ++ [u]).toArray e')) : KI X pins σ H m S kS a e1 ys (ks ++ [u]) { s' with heap := h', toks := t' } := by
  obtain ⟨J, ⟨p1, _⟩, p2, _⟩ := pin2 I
  have J2 := J.turned (t' := t') k f.1 f.2.1 f.2.2.2.1 f.2.2.2.2.1 f.2.2.2.2.2
  refine ⟨e', H', m', pin2_of J2 f g hn (k _ _ hka.symm p2) (fun _ z => nomatch z) (fun _ z => nomatch z), f, g, st, rS, kvs ++ [v], rk.append (.cons ru .nil), ?_⟩
  have e2 : ys.take (ks ++ [u]).length = ys.take ks.length ++ [y] := by rw [List.length_append, List.length_singleton, List.take_add_one, hy]; rfl
  rw [e2]
  exact ry.append ⟨v, [], rfl, rv, rfl⟩
theorem KI.turn {k : Nat} {f : Addr} {fd : FuncData} {ps : List Str} {sp : SpA} {key : AV → AV} {xs : List AV} {vs : List V} {us : List Value} {x : Value} (F : FnOk X.prog X.w X.K X.mg X.base CX0 k f fd ps (lSp X.K sp)) (hb : Binds X.K fd ps []) (hr : Room k X.A.in1.in1)
    (hk : ∀ y ∈ xs, sp [y] S fun z S' => z = key y ∧ S' = S) (rx : RepVs X.K H m xs vs) (ru : Vals vs us) (hka : kS ≠ a) (I : KI X pins σ H m S kS a e1 (xs.map key) ks s') (hx : us[ks.length]? = some x) :
    wpAny (model X.prog X.w) X.A.in1.in1 (call (.ref f) [x]) (fun u s2 => (∃ e, s2.heap.get? kS = some (seqObj "list" ks.toArray e)) ∧ ks.length ≤ us.length ∧ ∀ h' t', (∀ b o, b ≠ kS → s2.heap.get? b = some o → h'.get? b = some o) → (∃ e, h'.get? kS = some (seqObj "list" (ks ++ [u]).toArray e)) →
      KI X pins σ H m S kS a e1 (xs.map key) (ks ++ [u]) { s2 with heap := h', toks := t' }) (fun _ _ => False) s' := by
  obtain ⟨e, H', m', J, fk, fa, st, rS, kvs, rk, ry⟩ := I
  have lu := ru.length
  have lx := rx.length
  have hi : ks.length < us.length := (List.getElem?_eq_some_iff.mp hx).1
  obtain ⟨y, hy⟩ : ∃ y, xs[ks.length]? = some y := ⟨_, List.getElem?_eq_getElem (by omega)⟩
  obtain ⟨v, hv, rv⟩ := rx.get hy
  obtain ⟨u, hu, r1⟩ := ru.get hv
  rw [hx] at hu
  cases hu
  have h : lSp X.K sp ([v] ++ []) H' (fun w H2 => ∃ m2, Stp H' m' H2 m2 ∧ RepS X.K H2 m2 S ∧ RepV X.K H2 m2 (key y) w) E0 :=
    ⟨m', S, [y], _, rS, ⟨v, [], rfl, rv.stp st, rfl⟩, hk y (List.mem_of_getElem? hy), fun H2 m2 S2 z w s2 r2 v2 q => by obtain ⟨rfl, rfl⟩ := q; exact ⟨m2, s2, r2, v2⟩⟩
  have r2 : Vals ([v] ++ []) ([x] ++ []) := .cons r1 .nil
  have hl : ([x] ++ ([] : List Value)).length = ps.length := by rw [← r2.length]; exact F.len _ _ _ _ h
  refine wpAny_call (codeAny_mono (F.run X.A.in1.in1 X.stack s' H' ⟨[x], []⟩ ([x] ++ []) ([v] ++ []) _ E0 hr J.env0.in1.in1 (hb s' [x] J.kIn hl) r2 h) fun r s2 hq => ?_)
  cases r with
  | error e => exact hq
  | ok fl =>
    cases fl with
    | ret u =>
      obtain ⟨w, H2, J2, ru, m2, s2', rS2, rw'⟩ := J.after hq
      obtain ⟨J0, ⟨p1, n1⟩, p2, n2⟩ := pin2 J2
      refine ⟨⟨_, p1⟩, by omega, fun h' t' kk ⟨e', hn⟩ => ?_⟩
      exact KI.push J2 (FpOk.here fk n1) (FpOk.here fa n2) hka (st.trans s2') rS2 rk (RepVs.stp s2' _ _ ry) (by rw [List.getElem?_map, hy]; rfl) rw' ru kk hn
    | next => exact False.elim hq
    | brk => exact False.elim hq
    | cont => exact False.elim hq
/-- what is told when all keys are made -/
def KDone (X : Cx) (pins : List (Addr × Obj)) (σ : L2.St) (H : Hp) (m : MM) (S : Sto) (kS a : Addr) (e1 : Nat) (ys : List AV) (us : List Value) (P : PySem.Fin → Shared → Prop) : Prop :=
  ∀ ks s', ks.length = us.length → KI X pins σ H m S kS a e1 ys ks s' → ∀ keys e, s'.heap.get? kS = some (seqObj "list" keys e) → keys.toList = ks → wpAny (model X.prog X.w) X.A.in1.in1 (ksk_end a false us.toArray e1 (.ref kS) keys) P (fun _ _ => False) s'
theorem key_loop {k : Nat} {f : Addr} {fd : FuncData} {ps : List Str} {sp : SpA} {key : AV → AV} {xs : List AV} {vs : List V} {us : List Value} {P : PySem.Fin → Shared → Prop} (F : FnOk X.prog X.w X.K X.mg X.base CX0 k f fd ps (lSp X.K sp)) (hb : Binds X.K fd ps []) (hr : Room k X.A.in1.in1)
    (hk : ∀ y ∈ xs, sp [y] S fun z S' => z = key y ∧ S' = S) (rx : RepVs X.K H m xs vs) (ru : Vals vs us) (hz : us.length ≤ sizeLine) (hka : kS ≠ a) (I : KI X pins σ H m S kS a e1 (xs.map key) [] s') (fin : KDone X pins σ H m S kS a e1 (xs.map key) us P) :
    wpAny (model X.prog X.w) X.A.in1.in1 (ksk_rest a (.ref f) false us.toArray e1 (.ref kS)) P (fun _ _ => False) s' := by
  unfold ksk_rest
  refine wpAny_bind (wpAny_rule ?_)
  first
    | rw [List.forIn_toArray]
    | (rw [← Array.forIn_toList]; simp only [List.toList_toArray])
  refine wpAny_bind (ksk_fold (fun i z => ∃ ks, ks.length = i ∧ KI X pins σ H m S kS a e1 (xs.map key) ks z) us 0 s' ⟨[], rfl, I⟩ (fun j x z hx hz' => ?_) fun z hz' => ?_)
  · obtain ⟨ks, hl, J⟩ := hz'
    rw [Nat.zero_add] at hl ⊢
    subst hl
    refine wpAny_bind (wpAny_attempt (wpAny_mono (J.turn F hb hr hk rx ru hka hx) (fun u s2 hq => ?_) fun _ _ q => q.elim))
    obtain ⟨⟨e, hn⟩, hle, go⟩ := hq
    try dsimp only
    obtain ⟨e', hn'⟩ : ∃ e', (s2.heap.update kS (Obj.mapSeq (·.push u))).get? kS = some (seqObj "list" (ks.toArray.push u) e') := ⟨_, get?_update_seq hn (·.push u)⟩
    refine wpAny_bind (listUpdate_at hn rfl ?_ (by rw [List.size_toArray]; omega) (by rw [Array.size_push, List.size_toArray]; omega))
    refine wpAny_pure ⟨rfl, ks ++ [u], by rw [List.length_append]; rfl, go _ _ (fun b o hbk q => ((Heap.SameBut.update s2.heap kS (Obj.mapSeq (·.push u))).2 b hbk).trans q) ⟨e', ?_⟩⟩
    rw [hn']
    simp
  · obtain ⟨ks, hl, J⟩ := hz'
    rw [Nat.zero_add] at hl
    obtain ⟨e, H', m', J2, _⟩ := id J
    obtain ⟨_, ⟨p1, _⟩, _⟩ := pin2 J2
    try dsimp only
    refine wpAny_bind (listItems_at p1 rfl ?_)
    exact fin ks z hl J _ _ p1 (by simp)
theorem each_reps {H' : Hp} {m' : MM} : ∀ {out : List Value} {ys : List AV}, EachIs (fun v y => ∃ u, RelV u v ∧ RepV X.K H' m' y u) out ys → ∃ vs, Vals vs out ∧ RepVs X.K H' m' ys vs
  | _, _, .nil => ⟨[], .nil, rfl⟩
  | _, _, .cons ⟨u, a, b⟩ t => by
    obtain ⟨vs, c, d⟩ := each_reps t
    exact ⟨u :: vs, .cons a c, u, vs, rfl, b, d⟩
theorem reps_each {H' : Hp} {m' : MM} : ∀ {ys : List AV} {vs : List V} {us : List Value}, RepVs X.K H' m' ys vs → Vals vs us → EachIs (fun v y => ∃ u, RelV u v ∧ RepV X.K H' m' y u) us ys
  | [], _, _, h, r => by
    cases h
    cases r
    exact .nil
  | y :: ys, _, _, h, r => by
    obtain ⟨v, vs, rfl, h1, h2⟩ := h
    cases r with
    | cons r1 r2 => exact .cons ⟨v, r1, h1⟩ (reps_each h2 r2)
theorem each_dat {H' : Hp} {m' : MM} (I : Inv X pins σ H' s') : ∀ {ys : List AV} {vs : List V} {us : List Value}, (∀ y ∈ ys, okD y = true) → RepVs X.K H' m' ys vs → Vals vs us → EachIs (fun v d => ∃ as, Reads s'.heap v d as) us (ys.map dat)
  | [], _, _, _, h, r => by
    cases h
    cases r
    exact .nil
  | y :: ys, _, _, k, h, r => by
    obtain ⟨v, vs, rfl, h1, h2⟩ := h
    cases r with
    | cons r1 r2 => exact .cons (Dp.reads I _ v _ (dp_of y v (k y List.mem_cons_self) h1) r1) (each_dat I (fun z hz => k z (List.mem_cons_of_mem _ hz)) h2 r2)
/-- what the keys must be -/
structure KeysOk (A : Around) (ys : List AV) : Prop where
  ok : ∀ y ∈ ys, okD y = true
  tup : ∀ y ∈ ys, ∃ zs, y = .tup zs
  alk : AllAlike (ys.map dat)
  dep : ∀ y ∈ ys, A.units + (dat y).depth < cLine
abbrev sortA (key : AV → AV) (xs : List AV) : List AV := xs.mergeSort (dataLe false fun y => dat (key y))
theorem key_fin {key : AV → AV} {xs : List AV} {vs : List V} {us : List Value} {Q : VK} (ko : KeysOk X.A.in1.in1 (xs.map key)) (rx : RepVs X.K H m xs vs) (ru : Vals vs us) (hz : us.length ≤ sizeLine) (hka : kS ≠ a)
    (fin : ∀ H' m' ws, Stp H m H' m' → RepS X.K H' m' S → H' a = none → ws.length ≤ sizeLine → RepVs X.K H' m' (sortA key xs) ws → Q (.ref a) (upd H' a (.lst ws))) :
    KDone X pins σ H m S kS a e1 (xs.map key) us (fun f z => f = .done (.ret .none) ∧ EP X pins σ Q (.ref a) z) := by
  intro ks s' hl I keys e hn hke
  obtain ⟨e0, H', m', J, fk, fa, st, rS, kvs, rk, ry⟩ := I
  obtain ⟨J0, ⟨p1, n1⟩, p2, n2⟩ := pin2 J
  have lu := ru.length
  have lx := rx.length
  rw [List.take_of_length_le (by rw [List.length_map]; omega)] at ry
  obtain ⟨G, g1, g2⟩ := restrict s'.heap fun b => decide (b ≠ kS)
  have gk : ∀ b o, b ≠ kS → s'.heap.get? b = some o → G.get? b = some o := fun b o hb q => (g1 b (decide_eq_true hb)).trans q
  have ed := each_dat J ko.ok ry rk
  have kp : KeepsBut a G s'.heap := fun b o hb q => by
    by_cases hk : b = kS
    · rw [hk, g2 kS (by simp)] at q
      cases q
    · rw [g1 b (decide_eq_true hk)] at q
      exact q
  rw [← hke] at ed
  have hd : ∀ d ∈ (xs.map key).map dat, ∃ zs, d = PyData.tuple zs := fun d hd => by
    obtain ⟨y, hy, rfl⟩ := List.mem_map.mp hd
    obtain ⟨zs, rfl⟩ := ko.tup y hy
    exact ⟨_, rfl⟩
  have hu : ∀ d ∈ (xs.map key).map dat, X.A.in1.in1.units + d.depth < cLine := fun d hd => by
    obtain ⟨y, hy, rfl⟩ := List.mem_map.mp hd
    exact ko.dep y hy
  have hsz : keys.size = us.length := by rw [← hl, ← hke, Array.length_toList]
  refine keyH_end (κ := dataKind s'.heap ((xs.map key).map dat)) (h₁ := G) kp (g2 kS (by simp)) hn p2 hka (sortsTup ed ko.alk hd hu) hsz hz fun h' tk c kp' na' => ⟨rfl, ?_⟩
  have out : KeyedOut false (xs.map fun y => dat (key y)) us (sortVals (dataKind s'.heap ((xs.map key).map dat)) false keys.toList us) := by
    have e : (xs.map fun y => dat (key y)) = (xs.map key).map dat := by rw [List.map_map]; rfl
    rw [e]
    exact ⟨s'.heap, keys.toList, ko.alk, rfl, ed⟩
  obtain ⟨ws, rw1, rw2⟩ := each_reps (X := X) (keyedOut_each (fun y => dat (key y)) out (reps_each (RepVs.stp st _ _ rx) ru))
  have lw : ws.length ≤ sizeLine := by rw [← rw2.length, List.length_mergeSort]; omega
  refine ⟨.ref a, upd H' a (.lst ws), inv_two (q := kS) J0 (fun b o hb hq z => kp' b o hb (gk b o hq z)) fa fk hka ⟨lw, _, c, rw1, na'⟩, rfl, fin H' m' ws st rS n2 lw rw2⟩
/-- sorted(l, key=f) -/
theorem sorted_key_run {k : Nat} {f l : Addr} {fd : FuncData} {ps : List Str} {sp : SpA} {key : AV → AV} {xs : List AV} {vs : List V} {Q : VK} (I : Inv X pins σ H s) (F : FnOk X.prog X.w X.K X.mg X.base CX0 k f fd ps (lSp X.K sp)) (hb : Binds X.K fd ps []) (hr : Room k X.A.in1.in1)
    (rS : RepS X.K H m S) (hk : ∀ y ∈ xs, sp [y] S fun z S' => z = key y ∧ S' = S) (hs : SqL X.K H l vs) (rx : RepVs X.K H m xs vs) (ko : KeysOk X.A.in1.in1 (xs.map key))
    (fin : ∀ a H' m' ws, Stp H m H' m' → RepS X.K H' m' S → H' a = none → ws.length ≤ sizeLine → RepVs X.K H' m' (sortA key xs) ws → Q (.ref a) (upd H' a (.lst ws))) :
    wpAny (model X.prog X.w) X.A (call (.builtin "sorted") [.ref l] [(Str.ofString "key", .ref f)]) (EP X pins σ Q) X.xe s := by
  obtain ⟨us, ru, hl, hz⟩ := I.list hs
  have lu := ru.length
  have hz : us.length ≤ sizeLine := by omega
  refine sorted_of_sort hl.isList hz (ksk_s1 _ _) (fun _ => ksk_l1 _ _) fun E' => ?_
  rw [ksk_t1]
  have ho := copyHeap_at s.heap us
  have la : s.heap.objs.size + 1 < (copyHeap s.heap us).objs.size := Heap.lt_size ho
  obtain ⟨e1, ho1⟩ : ∃ e1, ((copyHeap s.heap us).update (s.heap.objs.size + 1) (Obj.mapSeq fun _ => (#[] : Array Value))).get? (s.heap.objs.size + 1) = some (seqObj "list" #[] e1) := ⟨_, get?_update_seq ho fun _ => #[]⟩
  unfold ksk_tree
  refine wpAny_bind (listItems_at ho rfl ?_)
  refine wpAny_bind (listUpdate_at ho rfl ?_ (by rw [List.size_toArray]; exact hz) (Nat.zero_le _))
  refine wpAny_bind (seqEpoch_at ho1 rfl ?_)
  refine wpAny_bind (wpAny_newTuple ?_ (by show us.length ≤ _; exact hz))
  refine wpAny_bind (wpAny_newList ?_ (Nat.zero_le _))
  refine wpAny_holding ?_
  have hq : ((((copyHeap s.heap us).update (s.heap.objs.size + 1) (Obj.mapSeq fun _ => (#[] : Array Value))).push (seqObj "tuple" us.toArray 0))).objs.size = (copyHeap s.heap us).objs.size + 1 := by rw [size_push', Heap.size_update]
  have hka : ((((copyHeap s.heap us).update (s.heap.objs.size + 1) (Obj.mapSeq fun _ => (#[] : Array Value))).push (seqObj "tuple" us.toArray 0))).objs.size ≠ s.heap.objs.size + 1 := by omega
  have fa : FpOk X pins H (s.heap.objs.size + 1) := I.fpOk (Nat.le_succ _) (I.hok.fresh (Nat.le_succ _))
  have fk : FpOk X pins H ((((copyHeap s.heap us).update (s.heap.objs.size + 1) (Obj.mapSeq fun _ => (#[] : Array Value))).push (seqObj "tuple" us.toArray 0))).objs.size := I.fpOk (by omega) (I.hok.fresh (by omega))
  have J := I.turned (t' := s.toks) (h' := sortingHeap (copyHeap s.heap us) (s.heap.objs.size + 1) us) (fun b o _ q => sorting_copy_old q) fa.1 fa.2.1 fa.2.2.2.1 fa.2.2.2.2.1 fa.2.2.2.2.2
  have g1 : (sortingHeap (copyHeap s.heap us) (s.heap.objs.size + 1) us).get? _ = some (seqObj "list" #[] 0) := Heap.get?_push_size _ rfl
  have g2 : (sortingHeap (copyHeap s.heap us) (s.heap.objs.size + 1) us).get? (s.heap.objs.size + 1) = some (seqObj "list" #[] e1) := Heap.get?_push_of_some _ (Heap.get?_push_of_some _ ho1)
  refine wpAny_mono (key_loop F hb hr hk rx ru hz hka ⟨0, H, m, pin2_of J fk fa g1 g2 (fun _ z => nomatch z) (fun _ z => nomatch z), fk, fa, .refl _ _, rS, [], .nil, rfl⟩ (key_fin (e1 := e1) ko rx ru hz hka fun H' m' ws => fin _ H' m' ws)) (fun _ _ q => q) fun _ _ q => q.elim
end
end HA

/-! Sorting, part 3: the reading of sorted(e, key=f). -/
namespace HA
open PySem PySem.Spec PySem.Calls PySem.SeqAt PyProof.Rows PySem.W L2
/-- keys: tuples, alike, not too deep -/
structure KeysA (ys : List AV) : Prop where
  ok : ∀ y ∈ ys, okD y = true
  tup : ∀ y ∈ ys, ∃ zs, y = .tup zs
  alk : AllAlike (ys.map dat)
  dep : ∀ y ∈ ys, (dat y).depth ≤ 900
def aSortK (sp : SpA) (te : ATE) : ATE := fun ρ S Q => te ρ S fun x S1 => ∃ xs key, asL S1 x = some xs ∧ (∀ y ∈ xs, sp [y] S1 fun z S' => z = key y ∧ S' = S1) ∧ KeysA (xs.map key) ∧ Q (.fl (sortA key xs)) S1
def rSortKA (K : PySem.W.Frag) (f : Addr) (sp : SpA) : List V → List V → Hp → VK → Prop := fun vs zs H Q => zs = [.ref f] ∧ ∃ m S x v QA xs key, RepS K H m S ∧ vs = [v] ∧ RepV K H m x v ∧ asL S x = some xs ∧ (∀ y ∈ xs, sp [y] S fun z S' => z = key y ∧ S' = S) ∧ KeysA (xs.map key) ∧
  QA (.fl (sortA key xs)) S ∧ Fin K H m QA Q
theorem cr_sortKA {X : Cx} {k : Nat} {f : Addr} {fd : FuncData} {ps : List Str} {sp : SpA} (F : FnOk X.prog X.w X.K X.mg X.base CX0 k f fd ps (lSp X.K sp)) (hb : Binds X.K fd ps []) (hr : Room (k + 1 + 1) X.A) (hu : X.A.units + maxDep < cLine) :
    CallRK X (.builtin "sorted") [Str.ofString "key"] (rSortKA X.K f sp) := by
  intro pins s σ H vs zs us ws Q I r rz h
  obtain ⟨rfl, m, S, x, v, QA, xs, key, rS, rfl, rx, ex, hk, ko, q, fin⟩ := h
  obtain ⟨l, xv, rfl, hs, _, rxs⟩ := asL_rep rS rx ex
  obtain rfl := Vals.ref1 r
  obtain rfl := Vals.ref1 rz
  refine sorted_key_run I F hb hr.in1.in1 rS hk hs rxs ⟨ko.ok, ko.tup, ko.alk, fun y hy => ?_⟩ fun a H' m' ws st rS' n lw rw => ?_
  · have := ko.dep y hy
    show X.A.units + 1 + 1 + _ < _
    unfold maxDep at hu
    omega
  · exact Fin.new (mu := false) (Fin.stp st fin) rS' rw lw q n
theorem se_sortK {X : Cx} {k : Nat} {x y : Str} {ps : List Str} {sp : SpA} {e : Expr} {te : ATE} {p pos p2 p3 : Pos} (C : Callee X.prog X.w X.K X.mg X.base y ps (k - 2) sp) (hr : Room k X.A) (hk : 50 ≤ k) (hm : X.mg x = none) (he : SE X e te) (hx : x = "sorted")
    (hg : Gl X x := by rfl) (hgy : Gl X y := by rfl) (hd : (y == ("__debug__" : Str)) = false := by decide) (h0 : starEach [e] X.env = (false, eval e X.env) :: starEach [] X.env := by rfl) (h1 : backTo pos (starEach [e] X.env) = (false, eval e X.env) :: backTo pos (starEach [] X.env) := by rfl) (h2 : (backTo pos (starEach [e] X.env)).any (·.1) = false := by rfl)
    (h3 : (backToKw pos (keywordEach [⟨some (Str.ofString "key"), .Name y p2, p3⟩] X.env)).all (·.1.isSome) = true := by rfl) (h4 : (backToKw pos (keywordEach [⟨some (Str.ofString "key"), .Name y p2, p3⟩] X.env)).any (·.1.isNone) = false := by rfl)
    (h5 : (backToKw pos (keywordEach [⟨some (Str.ofString "key"), .Name y p2, p3⟩] X.env)).filterMap (·.1) = [Str.ofString "key"] := by rfl) :
    SE X (.Call (.Name x p) [e] [⟨some (Str.ofString "key"), .Name y p2, p3⟩] pos) (aSortK sp te) := by
  subst hx
  obtain ⟨f, fd, c1, c2, c3, c4⟩ := C.ex
  have hr2 : Room (k - 2 + 1 + 1) X.A := hr.mono (by omega)
  refine PE.imp (pe_callBK (cr_sortKA c4 c3 hr2 (hu_room hr hk)) hg hm (by decide +kernel) (pa_cons he pa_nil h0) (pk_cons (pe_glob (v := .ref f) hgy c1 rfl hd) pk_nil) (by decide) (by decide) h1 h2 h3 h4 h5) fun σ H Q h => ?_
  obtain ⟨m, S, ρ, QA, rS, rE, h, fin⟩ := h
  refine ⟨m, S, ρ, _, rS, rE, h, fun H1 m1 S1 a v s1 rS1 rv1 q1 => ?_⟩
  obtain ⟨xs, key, g1, g2, g3, g4⟩ := q1
  exact ⟨rfl, m1, S1, a, v, QA, xs, key, rS1, rfl, rv1, g1, g2, g3, g4, Fin.stp s1 fin⟩
end HA

/-! Terms: as data, their places. -/
namespace HA
open PySem PySem.Spec PyProof.Rows L2
inductive Tm where
  | name (k : Nat) | sign (w : Str) (ps : List (Nat × Tm)) | hole (w : Str) (ts : List Tm)
theorem Tm.ind {P : Tm → Prop} (h1 : ∀ k, P (.name k)) (h2 : ∀ w ps, (∀ p ∈ ps, P p.2) → P (.sign w ps)) (h3 : ∀ w ts, (∀ t ∈ ts, P t) → P (.hole w ts)) : ∀ t, P t := by
  intro t
  refine Tm.rec (motive_1 := P) (motive_2 := fun ps => ∀ p ∈ ps, P p.2) (motive_3 := fun ts => ∀ t ∈ ts, P t) (motive_4 := fun p => P p.2) h1 h2 h3 ?_ ?_ ?_ ?_ ?_ t
  · intro p hp; cases hp
  · intro p ps a b q hq
    rcases List.mem_cons.mp hq with z | z
    · subst z; exact a
    · exact b q z
  · intro p hp; cases hp
  · intro p ps a b q hq
    rcases List.mem_cons.mp hq with z | z
    · subst z; exact a
    · exact b q z
  · intro n t h; exact h
def inn : Tm → List (Nat × Tm)
  | .name _ => []
  | .sign _ ps => ps
  | .hole _ ts => ts.map fun t => (0, t)
theorem Tm.indI {P : Tm → Prop} (h : ∀ t, (∀ p ∈ inn t, P p.2) → P t) : ∀ t, P t :=
  Tm.ind (fun k => h _ fun p hp => (nomatch hp)) (fun w ps q => h _ q) fun w ts q => h _ fun p hp => by
    obtain ⟨t, m, rfl⟩ := List.mem_map.mp hp
    exact q t m
mutual
def Tm.fold {β : Type} (f : Tm → List β → β) : Tm → β
  | .name k => f (.name k) []
  | .sign w ps => f (.sign w ps) (Tm.foldPs f ps)
  | .hole w ts => f (.hole w ts) (Tm.foldTs f ts)
def Tm.foldPs {β : Type} (f : Tm → List β → β) : List (Nat × Tm) → List β
  | [] => []
  | (_, t) :: ps => Tm.fold f t :: Tm.foldPs f ps
def Tm.foldTs {β : Type} (f : Tm → List β → β) : List Tm → List β
  | [] => []
  | t :: ts => Tm.fold f t :: Tm.foldTs f ts
end
theorem foldPs_map {β : Type} (f : Tm → List β → β) : ∀ ps, Tm.foldPs f ps = ps.map fun p => Tm.fold f p.2
  | [] => rfl
  | (_, t) :: ps => by
    show Tm.fold f t :: Tm.foldPs f ps = _
    rw [foldPs_map f ps]
    rfl
theorem foldTs_map {β : Type} (f : Tm → List β → β) : ∀ ts, Tm.foldTs f ts = ts.map fun t => Tm.fold f t
  | [] => rfl
  | t :: ts => by
    show Tm.fold f t :: Tm.foldTs f ts = _
    rw [foldTs_map f ts]
    rfl
theorem fold_eq {β : Type} (f : Tm → List β → β) (t : Tm) : Tm.fold f t = f t ((inn t).map fun p => Tm.fold f p.2) := by
  cases t with
  | name k => rfl
  | sign w ps =>
    show f _ (Tm.foldPs f ps) = _
    rw [foldPs_map]
    rfl
  | hole w ts =>
    show f _ (Tm.foldTs f ts) = _
    rw [foldTs_map]
    show _ = f _ ((ts.map fun t => (0, t)).map _)
    rw [List.map_map]
    rfl
mutual
def enc : Tm → AV
  | .name k => .tup [.str "name", .int k]
  | .sign w ps => .tup [.str "sign", .str w, .tup (encPs ps)]
  | .hole w ts => .tup [.str "hole", .str w, .tup (encs ts)]
def encPs : List (Nat × Tm) → List AV
  | [] => []
  | (n, t) :: ps => .tup [.int n, enc t] :: encPs ps
def encs : List Tm → List AV
  | [] => []
  | t :: ts => enc t :: encs ts
end
theorem encs_map : ∀ ts, encs ts = ts.map enc
  | [] => rfl
  | t :: ts => by
    show enc t :: encs ts = _
    rw [encs_map ts]
    rfl
def encP (p : Nat × Tm) : AV := .tup [.int p.1, enc p.2]
theorem encPs_map : ∀ ts, encPs ts = ts.map encP
  | [] => rfl
  | (n, t) :: ts => by
    show encP (n, t) :: encPs ts = _
    rw [encPs_map ts]
    rfl
theorem inn_hole (w : Str) (ts : List Tm) : encPs (inn (.hole w ts)) = ts.map fun t => AV.tup [.int 0, enc t] := by
  rw [encPs_map]
  simp [inn, encP]
/-- words that the model lays out -/
abbrev okW (w : Str) : Prop := w.cps.all (· < 0x110000) = true
def wordOf : Tm → Option Str
  | .name _ => none
  | .sign w _ => some w
  | .hole w _ => some w
abbrev sizeT (t : Tm) : Nat := Tm.fold (fun _ l => 1 + l.sum) t
abbrev depT (t : Tm) : Nat := Tm.fold (fun _ l => 1 + l.foldr max 0) t
abbrev okT (t : Tm) : Prop := Tm.fold (fun t l => (∀ w, wordOf t = some w → okW w) ∧ ∀ p ∈ l, p) t
theorem sizeT_eq (t : Tm) : sizeT t = 1 + ((inn t).map fun p => sizeT p.2).sum := fold_eq _ t
theorem depT_eq (t : Tm) : depT t = 1 + ((inn t).map fun p => depT p.2).foldr max 0 := fold_eq _ t
theorem okT_eq (t : Tm) : okT t ↔ (∀ w, wordOf t = some w → okW w) ∧ ∀ p ∈ inn t, okT p.2 := by
  unfold okT
  rw [fold_eq]
  refine and_congr_right fun _ => ⟨fun h p hp => h _ (List.mem_map.mpr ⟨p, hp, rfl⟩), fun h q hq => ?_⟩
  obtain ⟨p, hp, rfl⟩ := List.mem_map.mp hq
  exact h p hp
theorem le_foldr_max {l : List Nat} {n : Nat} (h : n ∈ l) : n ≤ l.foldr max 0 := by
  induction l with
  | nil => cases h
  | cons a l ih =>
    rw [List.foldr_cons]
    rcases List.mem_cons.mp h with z | z
    · subst z; exact Nat.le_max_left _ _
    · exact Nat.le_trans (ih z) (Nat.le_max_right _ _)
theorem foldr_max_le {l : List Nat} {n : Nat} (h : ∀ x ∈ l, x ≤ n) : l.foldr max 0 ≤ n := by
  induction l with
  | nil => exact Nat.zero_le _
  | cons a l ih =>
    rw [List.foldr_cons]
    exact Nat.max_le.mpr ⟨h a List.mem_cons_self, ih fun x hx => h x (List.mem_cons_of_mem _ hx)⟩
theorem depT_lt {t : Tm} {p : Nat × Tm} (h : p ∈ inn t) : depT p.2 < depT t := by
  rw [depT_eq t]
  have := le_foldr_max (List.mem_map.mpr ⟨p, h, rfl⟩ : depT p.2 ∈ (inn t).map fun p => depT p.2)
  omega
theorem depT_pos (t : Tm) : 1 ≤ depT t := by rw [depT_eq]; omega
theorem sizeT_pos (t : Tm) : 1 ≤ sizeT t := by rw [sizeT_eq]; omega
theorem sum_mem {l : List Nat} {n : Nat} (h : n ∈ l) : n ≤ l.sum := by
  induction l with
  | nil => cases h
  | cons a l ih =>
    rw [List.sum_cons]
    rcases List.mem_cons.mp h with z | z
    · subst z; omega
    · have := ih z; omega
theorem sizeT_lt {t : Tm} {p : Nat × Tm} (h : p ∈ inn t) : sizeT p.2 < sizeT t := by
  rw [sizeT_eq t]
  have := sum_mem (List.mem_map.mpr ⟨p, h, rfl⟩ : sizeT p.2 ∈ (inn t).map fun p => sizeT p.2)
  omega
theorem length_le_sum {α : Type} {f : α → Nat} (h : ∀ a, 1 ≤ f a) : ∀ l : List α, l.length ≤ (l.map f).sum
  | [] => Nat.zero_le _
  | a :: l => by
    rw [List.map_cons, List.sum_cons, List.length_cons]
    have := length_le_sum h l
    have := h a
    omega
theorem inn_length (t : Tm) : (inn t).length < sizeT t := by
  rw [sizeT_eq]
  have := length_le_sum (fun p : Nat × Tm => sizeT_pos p.2) (inn t)
  omega
/-! ### data -/
theorem ok_name : okD (.str "name") = true := by decide +kernel
theorem ok_sign : okD (.str "sign") = true := by decide +kernel
theorem ok_hole : okD (.str "hole") = true := by decide +kernel
theorem okDs_iff : ∀ {xs : List AV}, okDs xs = true ↔ ∀ x ∈ xs, okD x = true
  | [] => ⟨fun _ x h => (nomatch h), fun _ => rfl⟩
  | x :: xs => by
    show (okD x && okDs xs) = true ↔ _
    rw [Bool.and_eq_true, okDs_iff]
    simp
theorem okD_enc : ∀ t, okT t → okD (enc t) = true := Tm.ind (fun k _ => show (okD (.str "name") && true) = true by rw [ok_name]; rfl) (fun w ps ih h => by
    obtain ⟨h1, h2⟩ := (okT_eq _).mp h
    have e : okDs (encPs ps) = true := by
      rw [encPs_map, okDs_iff]
      intro x hx
      obtain ⟨p, hp, rfl⟩ := List.mem_map.mp hx
      show (true && (okD (enc p.2) && true)) = true
      rw [ih p hp (h2 p hp)]
      rfl
    show (okD (.str "sign") && (okD (.str w) && (okDs (encPs ps) && true))) = true
    rw [e, show okD (.str w) = true from h1 w rfl, ok_sign]
    rfl) fun w ts ih h => by
    obtain ⟨h1, h2⟩ := (okT_eq _).mp h
    have e : okDs (encs ts) = true := by
      rw [encs_map, okDs_iff]
      intro x hx
      obtain ⟨p, hp, rfl⟩ := List.mem_map.mp hx
      exact ih p hp (h2 (0, p) (List.mem_map.mpr ⟨p, hp, rfl⟩))
    show (okD (.str "hole") && (okD (.str w) && (okDs (encs ts) && true))) = true
    rw [e, show okD (.str w) = true from h1 w rfl, ok_hole]
    rfl
theorem eqvAll_refl_of : ∀ {xs : List PyData}, (∀ x ∈ xs, PyData.eqv x x = true) → PyData.eqvAll xs xs = true
  | [], _ => by simp [PyData.eqvAll]
  | x :: xs, h => by
    rw [PySem.W.eqv_all_cons, h x List.mem_cons_self, eqvAll_refl_of fun y hy => h y (List.mem_cons_of_mem _ hy)]
    rfl
mutual
theorem eqv_refl : ∀ x : AV, okD x = true → eqD x x = true
  | .non, _ => by simp [eqD, dat, PyData.eqv]
  | .bl _, _ => by simp [eqD, dat, PyData.eqv]
  | .int _, _ => by simp [eqD, dat, PyData.eqv]
  | .str _, _ => by simp [eqD, dat, PyData.eqv]
  | .tup xs, h => by
    show PyData.eqv (.tuple (dats xs)) (.tuple (dats xs)) = true
    rw [PyData.eqv]
    exact eqvs_refl xs h
  | .fl xs, h => by
    show PyData.eqv (.list (dats xs)) (.list (dats xs)) = true
    rw [PyData.eqv]
    exact eqvs_refl xs h
  | .sl xs, h => by
    show PyData.eqv (.list (dats xs)) (.list (dats xs)) = true
    rw [PyData.eqv]
    exact eqvs_refl xs h
  | .ref _, h => nomatch h
  | .fd _ _, h => nomatch h
  | .raw _, h => nomatch h
theorem eqvs_refl : ∀ xs : List AV, okDs xs = true → PyData.eqvAll (dats xs) (dats xs) = true
  | [], _ => by simp [dats, PyData.eqvAll]
  | x :: xs, h => by
    have h : (okD x && okDs xs) = true := h
    rw [Bool.and_eq_true] at h
    show PyData.eqvAll (dat x :: dats xs) (dat x :: dats xs) = true
    rw [PySem.W.eqv_all_cons, show PyData.eqv (dat x) (dat x) = true from eqv_refl x h.1, eqvs_refl xs h.2]
    rfl
end
/-! ### how deep -/
abbrev dpA (x : AV) : Nat := (dat x).depth
theorem dps_le : ∀ {xs : List AV} {n : Nat}, (∀ x ∈ xs, dpA x ≤ n) → PyData.depthAll (dats xs) ≤ n
  | [], n, _ => by simp [dats, PyData.depthAll]
  | x :: xs, n, h => by
    show PyData.depthAll (dat x :: dats xs) ≤ n
    rw [PyData.depthAll]
    exact Nat.max_le.mpr ⟨h x List.mem_cons_self, dps_le fun y hy => h y (List.mem_cons_of_mem _ hy)⟩
theorem dp_tup {xs : List AV} {n : Nat} (h : ∀ x ∈ xs, dpA x ≤ n) : dpA (.tup xs) ≤ n + 1 := by
  show (PyData.tuple (dats xs)).depth ≤ _
  rw [PyData.depth]
  have := dps_le h
  omega
theorem dp_fl {xs : List AV} {n : Nat} (h : ∀ x ∈ xs, dpA x ≤ n) : dpA (.fl xs) ≤ n + 1 := by
  show (PyData.list (dats xs)).depth ≤ _
  rw [PyData.depth]
  have := dps_le h
  omega
theorem dp_int (i : Int) : dpA (.int i) = 0 := by show (PyData.int i).depth = 0; simp [PyData.depth]
theorem dp_str (i : Str) : dpA (.str i) = 0 := by show (PyData.str i).depth = 0; simp [PyData.depth]
theorem dp_enc : ∀ t : Tm, dpA (enc t) ≤ 3 * depT t := Tm.ind (fun k => by
    have h : dpA (enc (.name k)) ≤ 0 + 1 := dp_tup (fun x hx => by
      rcases List.mem_cons.mp hx with rfl | hx
      · rw [dp_str]; omega
      · rcases List.mem_cons.mp hx with rfl | hx
        · rw [dp_int]; omega
        · cases hx)
    have := depT_pos (.name k)
    omega) (fun w ps ih => by
    obtain ⟨n, hn⟩ : ∃ n, depT (.sign w ps) = n + 1 := ⟨depT (.sign w ps) - 1, by have := depT_pos (.sign w ps); omega⟩
    have h1 : dpA (.tup (encPs ps)) ≤ (3 * n + 1) + 1 := dp_tup fun x hx => by
      rw [encPs_map] at hx
      obtain ⟨p, hp, rfl⟩ := List.mem_map.mp hx
      refine dp_tup fun y hy => ?_
      rcases List.mem_cons.mp hy with rfl | hy
      · rw [dp_int]; omega
      · rcases List.mem_cons.mp hy with rfl | hy
        · have := ih p hp
          have : depT p.2 < depT (.sign w ps) := depT_lt (t := .sign w ps) hp
          omega
        · cases hy
    have h : dpA (enc (.sign w ps)) ≤ (3 * n + 2) + 1 := dp_tup fun x hx => by
      rcases List.mem_cons.mp hx with rfl | hx
      · rw [dp_str]; omega
      · rcases List.mem_cons.mp hx with rfl | hx
        · rw [dp_str]; omega
        · rcases List.mem_cons.mp hx with rfl | hx
          · omega
          · cases hx
    omega) fun w ts ih => by
    obtain ⟨n, hn⟩ : ∃ n, depT (.hole w ts) = n + 1 := ⟨depT (.hole w ts) - 1, by have := depT_pos (.hole w ts); omega⟩
    have h1 : dpA (.tup (encs ts)) ≤ (3 * n) + 1 := dp_tup fun x hx => by
      rw [encs_map] at hx
      obtain ⟨p, hp, rfl⟩ := List.mem_map.mp hx
      have := ih p hp
      have : depT p < depT (.hole w ts) := depT_lt (t := .hole w ts) (p := (0, p)) (List.mem_map.mpr ⟨p, hp, rfl⟩)
      omega
    have h : dpA (enc (.hole w ts)) ≤ (3 * n + 2) + 1 := dp_tup fun x hx => by
      rcases List.mem_cons.mp hx with rfl | hx
      · rw [dp_str]; omega
      · rcases List.mem_cons.mp hx with rfl | hx
        · rw [dp_str]; omega
        · rcases List.mem_cons.mp hx with rfl | hx
          · omega
          · cases hx
    omega
/-! ### places -/
abbrev Pl := List Int
def encPl (p : Pl) : AV := .tup (p.map AV.int)
/-- the rows: place, names bound on the way, what stands there -/
abbrev Row := Pl × Nat × Tm
def rowsF (ps : List Nat) (t : Tm) (l : List (List Row)) : List Row :=
  ([], 0, t) :: ((ps.zip l).zipIdx.flatMap fun q => q.1.2.map fun r => ((q.2 : Int) :: r.1, q.1.1 + r.2.1, r.2.2))
abbrev rowsT (t : Tm) : List Row := Tm.fold (fun t l => rowsF ((inn t).map (·.1)) t l) t
/-- below one part -/
def under (i : Nat) (m : Nat) (l : List Row) : List Row := l.map fun r => ((i : Int) :: r.1, m + r.2.1, r.2.2)
def rowsAt : Nat → List (Nat × Tm) → List Row
  | _, [] => []
  | i, p :: ps => under i p.1 (rowsT p.2) ++ rowsAt (i + 1) ps
theorem rowsT_eq (t : Tm) : rowsT t = ([], 0, t) :: rowsAt 0 (inn t) := by
  unfold rowsT
  rw [fold_eq]
  unfold rowsF
  congr 1
  generalize inn t = ps
  have go : ∀ (ps : List (Nat × Tm)) (i : Nat), (((ps.map (·.1)).zip (ps.map fun p => rowsT p.2)).zipIdx i).flatMap (fun q => q.1.2.map fun r => ((q.2 : Int) :: r.1, q.1.1 + r.2.1, r.2.2)) = rowsAt i ps := by
    intro ps
    induction ps with
    | nil => intro i; rfl
    | cons p ps ih =>
      intro i
      rw [List.map_cons, List.map_cons, List.zip_cons_cons, List.zipIdx_cons, List.flatMap_cons, ih (i + 1)]
      rfl
  exact go ps 0
theorem rowsAt_len (f : Nat × Tm → Nat) (h : ∀ p : Nat × Tm, (rowsT p.2).length = f p) : ∀ (ps : List (Nat × Tm)) (i : Nat), (rowsAt i ps).length = (ps.map f).sum
  | [], _ => rfl
  | p :: ps, i => by
    show (under i p.1 (rowsT p.2) ++ rowsAt (i + 1) ps).length = _
    rw [List.length_append, rowsAt_len f h ps, List.map_cons, List.sum_cons]
    unfold under
    rw [List.length_map, h]
theorem rowsAt_len' : ∀ (ps : List (Nat × Tm)) (i : Nat), (∀ p ∈ ps, (rowsT p.2).length = sizeT p.2) → (rowsAt i ps).length = (ps.map fun p => sizeT p.2).sum
  | [], _, _ => rfl
  | p :: ps, i, h => by
    show (under i p.1 (rowsT p.2) ++ rowsAt (i + 1) ps).length = _
    rw [List.length_append, rowsAt_len' ps _ fun q hq => h q (List.mem_cons_of_mem _ hq), List.map_cons, List.sum_cons]
    unfold under
    rw [List.length_map, h p List.mem_cons_self]
theorem rows_len : ∀ t : Tm, (rowsT t).length = sizeT t := Tm.indI fun t ih => by
  rw [rowsT_eq, sizeT_eq, List.length_cons, rowsAt_len' _ _ ih]
  omega
abbrev placesT (t : Tm) : List Pl := (rowsT t).map (·.1)
/-- what stands at a place -/
def atT : Tm → Pl → Option (Nat × Tm)
  | t, [] => some (0, t)
  | t, k :: p => match ixP (inn t) k with
    | some (m, u) => match atT u p with
      | some (b, x) => some (m + b, x)
      | none => none
    | none => none
where ixP (ps : List (Nat × Tm)) : Int → Option (Nat × Tm)
  | .ofNat n => ps[n]?
  | .negSucc _ => none
theorem atT_row : ∀ (t : Tm), ∀ r ∈ rowsT t, atT t r.1 = some r.2 := Tm.indI fun t ih r hr => by
  rw [rowsT_eq] at hr
  rcases List.mem_cons.mp hr with rfl | hr
  · rw [atT]
  · have go : ∀ (ps : List (Nat × Tm)) (i : Nat) (pre : List (Nat × Tm)), inn t = pre ++ ps → pre.length = i → r ∈ rowsAt i ps → atT t r.1 = some r.2 := by
      intro ps
      induction ps with
      | nil => intro i pre _ _ h; cases h
      | cons p ps ihp =>
        intro i pre e l h
        rcases List.mem_append.mp (show r ∈ under i p.1 (rowsT p.2) ++ rowsAt (i + 1) ps from h) with h | h
        · obtain ⟨q, hq, rfl⟩ := List.mem_map.mp h
          have g : (inn t)[i]? = some p := by rw [e, List.getElem?_append_right (by omega), l, Nat.sub_self]; rfl
          have w := ih p (List.mem_of_getElem? g) q hq
          show atT t ((i : Int) :: q.1) = _
          rw [atT]
          rw [show atT.ixP (inn t) (i : Int) = some p from g]
          dsimp only
          rw [w]
        · exact ihp (i + 1) (pre ++ [p]) (by rw [e, List.append_assoc]; rfl) (by rw [List.length_append, l]; rfl) h
    exact go (inn t) 0 [] rfl rfl hr
theorem atT_app : ∀ (p q : Pl) (t : Tm), atT t (p ++ q) = match atT t p with
    | some (b, x) => match atT x q with
      | some (c, y) => some (b + c, y)
      | none => none
    | none => none
  | [], q, t => by
    rw [List.nil_append, atT]
    dsimp only
    cases h : atT t q with
    | none => rfl
    | some z => simp
  | k :: p, q, t => by
    rw [List.cons_append, atT, atT]
    cases h : atT.ixP (inn t) k with
    | none => rfl
    | some z =>
      dsimp only
      rw [atT_app p q z.2]
      cases h2 : atT z.2 p with
      | none => rfl
      | some y =>
        dsimp only
        cases h3 : atT y.2 q with
        | none => rfl
        | some x => simp [Nat.add_assoc]
theorem atT_beyond {t : Tm} {k : Int} {p : Pl} (h : k < 0 ∨ ((inn t).length : Int) ≤ k) : atT t (k :: p) = none := by
  rw [atT]
  have e : atT.ixP (inn t) k = none := by
    cases k with
    | ofNat n =>
      have e : Int.ofNat n = (n : Int) := rfl
      exact List.getElem?_eq_none (by rcases h with h | h <;> omega)
    | negSucc n => rfl
  rw [e]
end HA

/-! Places in their order. -/
namespace HA
open PySem PySem.Spec PyProof.Rows L2 PySem.W
def toksP : Pl → List (Int ⊕ List Nat)
  | [] => [.inl 0]
  | k :: p => .inl 1 :: .inl k :: toksP p
theorem toks_pl : ∀ p : Pl, keyToksAll (dats (p.map AV.int)) = toksP p
  | [] => by simp [dats, keyToksAll, toksP]
  | k :: p => by
    show keyToksAll (PyData.int k :: dats (p.map AV.int)) = _
    rw [toks_all_cons, toks_pl p]
    simp [keyToks, toksP]
theorem toks_encPl (p : Pl) : keyToks (dat (encPl p)) = toksP p := by
  show keyToks (.tuple (dats (p.map AV.int))) = _
  rw [← toks_pl]
  simp [keyToks]
abbrev ltP (p q : Pl) : Bool := lexLt itemOrd (toksP p) (toksP q)
theorem ltP_nil (p : Pl) : ltP p [] = false := by
  cases p with
  | nil => exact lex_irrefl (O := itemOrd) _
  | cons k p =>
    show lexLt itemOrd (.inl 1 :: .inl k :: toksP p) [.inl 0] = false
    rw [lex_diff (by simp)]
    decide
theorem ltP_same (k : Int) (p q : Pl) : ltP (k :: p) (k :: q) = ltP p q := by
  show lexLt itemOrd (.inl 1 :: .inl k :: toksP p) (.inl 1 :: .inl k :: toksP q) = _
  rw [lex_self, lex_self]
theorem ltP_less {j k : Int} (h : j < k) (p q : Pl) : ltP (k :: p) (j :: q) = false := by
  show lexLt itemOrd (.inl 1 :: .inl k :: toksP p) (.inl 1 :: .inl j :: toksP q) = _
  rw [lex_self, lex_diff (fun e => by have := Sum.inl.inj e; omega)]
  show decide (k < j) = false
  exact decide_eq_false (by omega)
theorem toksP_inj : ∀ {p q : Pl}, toksP p = toksP q → p = q
  | [], [], _ => rfl
  | [], k :: q, h => by injection h with h _; injection h with h; omega
  | k :: p, [], h => by injection h with h _; injection h with h; omega
  | k :: p, j :: q, h => by
    injection h with _ h
    injection h with h1 h2
    injection h1 with h1
    rw [h1, toksP_inj h2]
/-- none stands ahead of a smaller one -/
abbrev RowLe (r1 r2 : Row) : Prop := ltP r2.1 r1.1 = false
theorem rowsAt_head : ∀ {ps : List (Nat × Tm)} {i : Nat} {r : Row}, r ∈ rowsAt i ps → ∃ j p, i ≤ j ∧ r.1 = ((j : Nat) : Int) :: p
  | p :: ps, i, r, h => by
    rcases List.mem_append.mp (show r ∈ under i p.1 (rowsT p.2) ++ rowsAt (i + 1) ps from h) with h | h
    · obtain ⟨q, hq, rfl⟩ := List.mem_map.mp h
      exact ⟨i, q.1, Nat.le_refl _, rfl⟩
    · obtain ⟨j, q, h1, h2⟩ := rowsAt_head h
      exact ⟨j, q, by omega, h2⟩
theorem rowsAt_le : ∀ {ps : List (Nat × Tm)} {i : Nat}, (∀ p ∈ ps, (rowsT p.2).Pairwise RowLe) → (rowsAt i ps).Pairwise RowLe
  | [], i, _ => .nil
  | p :: ps, i, h => by
    refine List.pairwise_append.mpr ⟨?_, rowsAt_le fun q hq => h q (List.mem_cons_of_mem _ hq), fun a ha b hb => ?_⟩
    · unfold under
      rw [List.pairwise_map]
      refine (h p List.mem_cons_self).imp fun {a b} e => ?_
      show ltP ((i : Int) :: b.1) ((i : Int) :: a.1) = false
      rw [ltP_same]
      exact e
    · obtain ⟨q, hq, rfl⟩ := List.mem_map.mp ha
      obtain ⟨j, z, h1, h2⟩ := rowsAt_head hb
      show ltP b.1 ((i : Int) :: q.1) = false
      rw [h2]
      exact ltP_less (by omega) _ _
theorem rows_le : ∀ t : Tm, (rowsT t).Pairwise RowLe := Tm.indI fun t ih => by
  rw [rowsT_eq]
  exact List.pairwise_cons.mpr ⟨fun r _ => ltP_nil _, rowsAt_le ih⟩
def encRow (r : Row) : AV := .tup [encPl r.1, .int r.2.1, enc r.2.2]
def keyRow : AV → AV
  | .tup (p :: _) => p
  | x => x
theorem sort_rows {t : Tm} {l : List Row} (h : l.Perm (rowsT t)) : sortA keyRow (l.map encRow) = (rowsT t).map encRow := by
  refine List.Perm.eq_of_pairwise (le := fun a b => dataLe false (fun y => dat (keyRow y)) a b = true) (fun a b ha hb h1 h2 => ?_) (sort_pairwise (sortLe_total _ _ _) _) ?_ ((List.mergeSort_perm _ _).trans (h.map _))
  · have ha := (List.mergeSort_perm _ _).mem_iff.mp ha
    obtain ⟨r1, m1, rfl⟩ := List.mem_map.mp ha
    obtain ⟨r2, m2, rfl⟩ := List.mem_map.mp hb
    have m1 := h.mem_iff.mp m1
    have e1 : (!lexLt itemOrd (keyToks (dat (encPl r2.1))) (keyToks (dat (encPl r1.1)))) = true := h1
    have e2 : (!lexLt itemOrd (keyToks (dat (encPl r1.1))) (keyToks (dat (encPl r2.1)))) = true := h2
    rw [toks_encPl, toks_encPl, Bool.not_eq_true'] at e1 e2
    have e := toksP_inj (lex_total (O := itemOrd) _ _ e2 e1)
    have w1 := atT_row t r1 m1
    have w2 := atT_row t r2 m2
    rw [e, w2] at w1
    have : r1 = r2 := Prod.ext e (Option.some.inj w1).symm
    rw [this]
  · rw [List.pairwise_map]
    refine (rows_le t).imp fun {a b} e => ?_
    show (!lexLt itemOrd (keyToks (dat (encPl b.1))) (keyToks (dat (encPl a.1)))) = true
    rw [toks_encPl, toks_encPl]
    rw [show lexLt itemOrd (toksP b.1) (toksP a.1) = false from e]
    rfl
theorem okD_pl (p : Pl) : okD (encPl p) = true := by
  show okDs (p.map AV.int) = true
  rw [okDs_iff]
  intro x hx
  obtain ⟨k, _, rfl⟩ := List.mem_map.mp hx
  rfl
theorem dp_pl (p : Pl) : dpA (encPl p) ≤ 1 := dp_tup fun x hx => by
  obtain ⟨k, _, rfl⟩ := List.mem_map.mp hx
  rw [dp_int]
  omega
theorem alike_pl : ∀ (p q : Pl), alikeAll (dats (p.map AV.int)) (dats (q.map AV.int)) = true
  | [], q => by simp [dats, alikeAll]
  | k :: p, [] => by simp [dats, alikeAll]
  | k :: p, j :: q => by
    show alikeAll (PyData.int k :: _) (PyData.int j :: _) = true
    rw [alikeAll, alike_pl p q]
    simp [alike]
theorem keys_rows (l : List Row) : KeysA ((l.map encRow).map keyRow) := by
  have e : (l.map encRow).map keyRow = l.map fun r => encPl r.1 := by rw [List.map_map]; rfl
  rw [e]
  refine ⟨fun y hy => ?_, fun y hy => ?_, fun d hd d' hd' => ?_, fun y hy => ?_⟩
  · obtain ⟨r, _, rfl⟩ := List.mem_map.mp hy
    exact okD_pl _
  · obtain ⟨r, _, rfl⟩ := List.mem_map.mp hy
    exact ⟨_, rfl⟩
  · rw [List.map_map] at hd hd'
    obtain ⟨r, _, rfl⟩ := List.mem_map.mp hd
    obtain ⟨r', _, rfl⟩ := List.mem_map.mp hd'
    show alike (.tuple _) (.tuple _) = true
    rw [alike]
    exact alike_pl _ _
  · obtain ⟨r, _, rfl⟩ := List.mem_map.mp hy
    have := dp_pl r.1
    show dpA (encPl r.1) ≤ 900
    omega
theorem rowsAt_snoc : ∀ (ps : List (Nat × Tm)) (i : Nat) (p : Nat × Tm), rowsAt i (ps ++ [p]) = rowsAt i ps ++ under (i + ps.length) p.1 (rowsT p.2)
  | [], i, p => by
    show under i p.1 (rowsT p.2) ++ [] = [] ++ under (i + 0) p.1 (rowsT p.2)
    rw [List.append_nil, List.nil_append, Nat.add_zero]
  | q :: ps, i, p => by
    show under i q.1 (rowsT q.2) ++ rowsAt (i + 1) (ps ++ [p]) = under i q.1 (rowsT q.2) ++ rowsAt (i + 1) ps ++ _
    rw [rowsAt_snoc ps (i + 1) p, List.append_assoc, List.length_cons]
    congr 3
    omega
theorem row_len : ∀ t : Tm, ∀ r ∈ rowsT t, r.1.length < depT t := Tm.indI fun t ih r hr => by
  rw [rowsT_eq] at hr
  rcases List.mem_cons.mp hr with rfl | hr
  · exact depT_pos t
  · have go : ∀ (ps : List (Nat × Tm)) (i : Nat), (∀ p ∈ ps, p ∈ inn t) → r ∈ rowsAt i ps → r.1.length < depT t := by
      intro ps
      induction ps with
      | nil => intro i _ h; cases h
      | cons p ps ihp =>
        intro i hm h
        rcases List.mem_append.mp (show r ∈ under i p.1 (rowsT p.2) ++ rowsAt (i + 1) ps from h) with h | h
        · obtain ⟨q, hq, rfl⟩ := List.mem_map.mp h
          have := ih p (hm p List.mem_cons_self) q hq
          have := depT_lt (hm p List.mem_cons_self)
          show (_ :: q.1).length < _
          rw [List.length_cons]
          omega
        · exact ihp (i + 1) (fun q hq => hm q (List.mem_cons_of_mem _ hq)) h
    exact go (inn t) 0 (fun _ h => h) hr
theorem zip_at {α : Type} {l : List α} {d r : List (α × Nat)} {a : α × Nat} (h : l.zipIdx = d ++ a :: r) : a.2 = d.length ∧ d.map (·.1) ++ a.1 :: r.map (·.1) = l := by
  constructor
  · have e : (l.zipIdx)[d.length]? = some a := by rw [h, List.getElem?_append_right (Nat.le_refl _), Nat.sub_self]; rfl
    rw [List.getElem?_zipIdx] at e
    obtain ⟨x, _, rfl⟩ := Option.map_eq_some_iff.mp e
    exact Nat.zero_add _
  · have e := congrArg (List.map Prod.fst) h
    rw [List.zipIdx_map_fst, List.map_append, List.map_cons] at e
    exact e.symm
theorem frzs_same {S : Sto} {k : Nat} : ∀ {xs : List AV}, (∀ x ∈ xs, noRef x = true) → Frzs S k xs xs
  | [], _ => .nil
  | x :: xs, h => .cons (.same (ltV_of x (h x List.mem_cons_self))) (frzs_same fun y hy => h y (List.mem_cons_of_mem _ hy))
/-! ### a walk by a stack -/
def shiftR (w r : Row) : Row := (w.1 ++ r.1, w.2.1 + r.2.1, r.2.2)
/-- all rows that a waiting one stands for -/
def sub (w : Row) : List Row := (rowsT w.2.2).map (shiftR w)
def kid (w : Row) (q : (Nat × Tm) × Nat) : Row := (w.1 ++ [(q.2 : Int)], w.2.1 + q.1.1, q.1.2)
theorem sub_at (w : Row) : ∀ (ps : List (Nat × Tm)) (i : Nat), (rowsAt i ps).map (shiftR w) = ((ps.zipIdx i).map (kid w)).flatMap sub
  | [], i => rfl
  | p :: ps, i => by
    show (under i p.1 (rowsT p.2) ++ rowsAt (i + 1) ps).map (shiftR w) = _
    rw [List.map_append, sub_at w ps (i + 1), List.zipIdx_cons, List.map_cons, List.flatMap_cons]
    congr 1
    unfold under sub
    rw [List.map_map]
    refine List.map_congr_left fun r _ => ?_
    show shiftR w ((i : Int) :: r.1, p.1 + r.2.1, r.2.2) = shiftR (kid w (p, i)) r
    unfold shiftR kid
    simp [Nat.add_assoc]
theorem sub_eq (w : Row) : sub w = w :: (((inn w.2.2).zipIdx).map (kid w)).flatMap sub := by
  unfold sub
  rw [rowsT_eq, List.map_cons, sub_at]
  congr 1
  unfold shiftR
  simp
theorem sub_root (t : Tm) : sub ([], 0, t) = rowsT t := by
  unfold sub
  have : shiftR ([], 0, t) = id := by
    funext r
    unfold shiftR
    simp
  rw [this, List.map_id]
theorem sub_self (w : Row) : w ∈ sub w := by rw [sub_eq]; exact List.mem_cons_self
theorem sub_len (w : Row) : (sub w).length = sizeT w.2.2 := by
  unfold sub
  rw [List.length_map, rows_len]
abbrev mu (ws : List Row) : Nat := (ws.flatMap sub).length
theorem mu_len : ∀ ws : List Row, ws.length ≤ mu ws
  | [] => Nat.zero_le _
  | w :: ws => by
    have := mu_len ws
    have h : mu (w :: ws) = (sub w).length + mu ws := by unfold mu; rw [List.flatMap_cons, List.length_append]
    have := sizeT_pos w.2.2
    rw [h, sub_len, List.length_cons]
    omega
theorem mu_kids (w : Row) : mu (((inn w.2.2).zipIdx).map (kid w)) + 1 = sizeT w.2.2 := by
  rw [← sub_len w, sub_eq w, List.length_cons]
theorem mu_app (a b : List Row) : mu (a ++ b) = mu a + mu b := by unfold mu; rw [List.flatMap_append, List.length_append]
theorem okT_at : ∀ t : Tm, okT t → ∀ r ∈ rowsT t, okT r.2.2 := Tm.indI fun t ih h r hr => by
  rw [rowsT_eq] at hr
  rcases List.mem_cons.mp hr with rfl | hr
  · exact h
  · have go : ∀ (ps : List (Nat × Tm)) (i : Nat), (∀ p ∈ ps, p ∈ inn t) → r ∈ rowsAt i ps → okT r.2.2 := by
      intro ps
      induction ps with
      | nil => intro i _ h; cases h
      | cons p ps ihp =>
        intro i hm h'
        rcases List.mem_append.mp (show r ∈ under i p.1 (rowsT p.2) ++ rowsAt (i + 1) ps from h') with h' | h'
        · obtain ⟨q, hq, rfl⟩ := List.mem_map.mp h'
          exact ih p (hm p List.mem_cons_self) (((okT_eq t).mp h).2 p (hm p List.mem_cons_self)) q hq
        · exact ihp (i + 1) (fun q hq => hm q (List.mem_cons_of_mem _ hq)) h'
    exact go (inn t) 0 (fun _ h => h) hr
theorem okD_row {r : Row} (h : okT r.2.2) : okD (encRow r) = true := by
  show (okD (encPl r.1) && (true && (okD (enc r.2.2) && true))) = true
  rw [okD_pl, okD_enc _ h]
  rfl
theorem row_dep : ∀ t : Tm, ∀ r ∈ rowsT t, depT r.2.2 ≤ depT t := Tm.indI fun t ih r hr => by
  rw [rowsT_eq] at hr
  rcases List.mem_cons.mp hr with rfl | hr
  · exact Nat.le_refl _
  · have go : ∀ (ps : List (Nat × Tm)) (i : Nat), (∀ p ∈ ps, p ∈ inn t) → r ∈ rowsAt i ps → depT r.2.2 ≤ depT t := by
      intro ps
      induction ps with
      | nil => intro i _ h; cases h
      | cons p ps ihp =>
        intro i hm h'
        rcases List.mem_append.mp (show r ∈ under i p.1 (rowsT p.2) ++ rowsAt (i + 1) ps from h') with h' | h'
        · obtain ⟨q, hq, rfl⟩ := List.mem_map.mp h'
          have := ih p (hm p List.mem_cons_self) q hq
          have := depT_lt (hm p List.mem_cons_self)
          show depT q.2.2 ≤ _
          omega
        · exact ihp (i + 1) (fun q hq => hm q (List.mem_cons_of_mem _ hq)) h'
    exact go (inn t) 0 (fun _ h => h) hr
end HA

/-! A term changed at a place. -/
namespace HA
open PySem PySem.Spec PyProof.Rows L2 PySem.W
theorem rowsAt_mem : ∀ {ps : List (Nat × Tm)} {i n : Nat} {m : Nat} {u : Tm} {r : Row}, ps[n]? = some (m, u) → r ∈ rowsT u → (((i + n : Nat) : Int) :: r.1, m + r.2.1, r.2.2) ∈ rowsAt i ps
  | [], i, n, m, u, r, h, _ => by simp at h
  | p :: ps, i, 0, m, u, r, h, hr => by
    have h : p = (m, u) := by simpa using h
    subst h
    exact List.mem_append_left _ (List.mem_map.mpr ⟨r, hr, rfl⟩)
  | p :: ps, i, n + 1, m, u, r, h, hr => by
    have := rowsAt_mem (i := i + 1) (n := n) (show ps[n]? = some (m, u) by simpa using h) hr
    have e : i + (n + 1) = i + 1 + n := by omega
    rw [e]
    exact List.mem_append_right _ this
theorem row_at : ∀ (p : Pl) (t : Tm) (z : Nat × Tm), atT t p = some z → (p, z) ∈ rowsT t
  | [], t, z, h => by
    rw [atT] at h
    cases h
    rw [rowsT_eq]
    exact List.mem_cons_self
  | k :: p, t, z, h => by
    rw [atT] at h
    cases hk : atT.ixP (inn t) k with
    | none => rw [hk] at h; cases h
    | some q =>
      obtain ⟨m, u⟩ := q
      rw [hk] at h
      dsimp only at h
      cases hu : atT u p with
      | none => rw [hu] at h; cases h
      | some y =>
        obtain ⟨b, x⟩ := y
        rw [hu] at h
        cases h
        cases k with
        | negSucc n => cases hk
        | ofNat n =>
          rw [rowsT_eq]
          refine List.mem_cons_of_mem _ ?_
          have := rowsAt_mem (i := 0) (n := n) hk (row_at p u _ hu)
          rw [Nat.zero_add] at this
          exact this
theorem mem_places {t : Tm} {p : Pl} : p ∈ placesT t ↔ ∃ z, atT t p = some z := by
  constructor
  · intro h
    obtain ⟨r, hr, rfl⟩ := List.mem_map.mp h
    exact ⟨_, atT_row t r hr⟩
  · rintro ⟨z, h⟩
    exact List.mem_map.mpr ⟨_, row_at p t z h, rfl⟩
theorem rowsAt_nodup : ∀ {ps : List (Nat × Tm)} {i : Nat}, (∀ p ∈ ps, (placesT p.2).Nodup) → ((rowsAt i ps).map (·.1)).Nodup
  | [], i, _ => List.nodup_nil
  | p :: ps, i, h => by
    show ((under i p.1 (rowsT p.2) ++ rowsAt (i + 1) ps).map (·.1)).Nodup
    rw [List.map_append, List.nodup_append]
    refine ⟨?_, rowsAt_nodup fun q hq => h q (List.mem_cons_of_mem _ hq), fun a ha b hb => ?_⟩
    · unfold under
      rw [List.map_map]
      have := h p List.mem_cons_self
      have e : ((rowsT p.2).map ((fun x : Row => x.1) ∘ fun r => ((i : Int) :: r.1, p.1 + r.2.1, r.2.2))) = (placesT p.2).map fun q => (i : Int) :: q := by
        unfold placesT
        rw [List.map_map]
        rfl
      rw [e]
      exact List.Pairwise.map _ (fun a b hab z => hab (List.cons.inj z).2) this
    · obtain ⟨r, hr, rfl⟩ := List.mem_map.mp ha
      obtain ⟨r', hr', rfl⟩ := List.mem_map.mp hb
      obtain ⟨q, hq, rfl⟩ := List.mem_map.mp hr
      obtain ⟨j, z, h1, h2⟩ := rowsAt_head hr'
      rw [h2]
      intro e
      have := (List.cons.inj e).1
      omega
theorem places_nodup : ∀ t : Tm, (placesT t).Nodup := Tm.indI fun t ih => by
  unfold placesT
  rw [rowsT_eq, List.map_cons, List.nodup_cons]
  refine ⟨fun h => ?_, rowsAt_nodup ih⟩
  obtain ⟨r, hr, e⟩ := List.mem_map.mp h
  obtain ⟨j, z, h1, h2⟩ := rowsAt_head hr
  rw [h2] at e
  cases e
/-! ### changed -/
def setP (ps : List (Nat × Tm)) (n : Nat) (f : Tm → Tm) : List (Nat × Tm) := match ps[n]? with
  | some (m, u) => ps.set n (m, f u)
  | none => ps
def setT (ts : List Tm) (n : Nat) (f : Tm → Tm) : List Tm := match ts[n]? with
  | some u => ts.set n (f u)
  | none => ts
def chT : Pl → Tm → Tm → Tm
  | [], _, o => o
  | k :: p, .sign w ps, o => .sign w (setP ps k.toNat fun u => chT p u o)
  | k :: p, .hole w ts, o => .hole w (setT ts k.toNat fun u => chT p u o)
  | _ :: _, .name k, _ => .name k
theorem inn_ch {k : Int} {p : Pl} {t o : Tm} : inn (chT (k :: p) t o) = setP (inn t) k.toNat fun u => chT p u o := by
  cases t with
  | name j => rfl
  | sign w ps => rfl
  | hole w ts =>
    show (setT ts k.toNat fun u => chT p u o).map (fun t => (0, t)) = setP (ts.map fun t => (0, t)) k.toNat fun u => chT p u o
    unfold setT setP
    rw [List.getElem?_map]
    cases h : ts[k.toNat]? with
    | none => rfl
    | some u =>
      show (ts.set k.toNat (chT p u o)).map _ = _
      rw [List.map_set]
      rfl
/-- a row's own first two things, the sorts of its parts -/
def headT : Tm → AV × AV
  | .name k => (.str "name", .int k)
  | .sign w _ => (.str "sign", .str w)
  | .hole w _ => (.str "hole", .str w)
def sortsT (t : Tm) : List Nat := (inn t).map (·.1)
theorem head_ch {k : Int} {p : Pl} {t o : Tm} : headT (chT (k :: p) t o) = headT t := by cases t <;> rfl
theorem sorts_set (ps : List (Nat × Tm)) (n : Nat) (f : Tm → Tm) : (setP ps n f).map (·.1) = ps.map (·.1) := by
  unfold setP
  cases h : ps[n]? with
  | none => rfl
  | some q =>
    obtain ⟨m, u⟩ := q
    show (ps.set n (m, f u)).map _ = _
    rw [List.map_set]
    refine List.ext_getElem? fun i => ?_
    by_cases hi : n = i
    · subst hi
      have hl : n < ps.length := (List.getElem?_eq_some_iff.mp h).1
      rw [List.getElem?_set_self (by rw [List.length_map]; exact hl), List.getElem?_map, h]
      rfl
    · rw [List.getElem?_set_ne hi]
theorem sorts_ch {k : Int} {p : Pl} {t o : Tm} : sortsT (chT (k :: p) t o) = sortsT t := by
  unfold sortsT
  rw [inn_ch, sorts_set]
theorem ix_ch {ps : List (Nat × Tm)} {n : Nat} {m : Nat} {u : Tm} {f : Tm → Tm} (h : ps[n]? = some (m, u)) : (setP ps n f)[n]? = some (m, f u) := by
  unfold setP
  rw [h]
  show (ps.set n (m, f u))[n]? = _
  rw [List.getElem?_set_self (List.getElem?_eq_some_iff.mp h).1]
theorem ix_ne {ps : List (Nat × Tm)} {n j : Nat} {f : Tm → Tm} (h : n ≠ j) : (setP ps n f)[j]? = ps[j]? := by
  unfold setP
  cases e : ps[n]? with
  | none => rfl
  | some q =>
    obtain ⟨m, u⟩ := q
    show (ps.set n (m, f u))[j]? = _
    rw [List.getElem?_set_ne h]
/-- at the place itself -/
theorem at_ch : ∀ (p : Pl) (t o : Tm) (z : Nat × Tm), atT t p = some z → atT (chT p t o) p = some (z.1, o)
  | [], t, o, z, h => by
    rw [atT] at h
    cases h
    rfl
  | k :: p, t, o, z, h => by
    rw [atT] at h ⊢
    rw [inn_ch]
    cases k with
    | negSucc n => cases h
    | ofNat n =>
      cases hk : (inn t)[n]? with
      | none => rw [show atT.ixP (inn t) (Int.ofNat n) = none from hk] at h; cases h
      | some q =>
        obtain ⟨m, u⟩ := q
        rw [show atT.ixP (inn t) (Int.ofNat n) = some (m, u) from hk] at h
        dsimp only at h
        cases hu : atT u p with
        | none => rw [hu] at h; cases h
        | some y =>
          rw [hu] at h
          cases h
          rw [show atT.ixP (setP (inn t) (Int.ofNat n).toNat fun u => chT p u o) (Int.ofNat n) = some (m, chT p u o) from ix_ch hk]
          dsimp only
          rw [at_ch p u o y hu]
/-- elsewhere -/
def SameAt : Option (Nat × Tm) → Option (Nat × Tm) → Prop
  | none, none => True
  | some (b, x), some (c, y) => b = c ∧ headT x = headT y ∧ sortsT x = sortsT y
  | _, _ => False
theorem SameAt.refl : ∀ z, SameAt z z
  | none => trivial
  | some (b, x) => ⟨rfl, rfl, rfl⟩
theorem at_else : ∀ (p : Pl) (t o : Tm) (z : Nat × Tm), atT t p = some z → ∀ q : Pl, ¬ p <+: q → SameAt (atT (chT p t o) q) (atT t q)
  | [], t, o, z, h, q, hq => absurd (List.nil_prefix) hq
  | k :: p, t, o, z, h, [], hq => by
    rw [atT, atT]
    exact ⟨rfl, head_ch, sorts_ch⟩
  | k :: p, t, o, z, h, j :: q, hq => by
    rw [atT] at h
    cases k with
    | negSucc n => cases h
    | ofNat n =>
      cases hk : (inn t)[n]? with
      | none => rw [show atT.ixP (inn t) (Int.ofNat n) = none from hk] at h; cases h
      | some w =>
        obtain ⟨m, u⟩ := w
        rw [show atT.ixP (inn t) (Int.ofNat n) = some (m, u) from hk] at h
        dsimp only at h
        cases hu : atT u p with
        | none => rw [hu] at h; cases h
        | some y =>
          rw [atT, atT, inn_ch]
          cases j with
          | negSucc i => exact trivial
          | ofNat i =>
            by_cases hi : n = i
            · subst hi
              have hq' : ¬ p <+: q := fun e => hq (by
                obtain ⟨s, rfl⟩ := e
                exact ⟨s, rfl⟩)
              have ih := at_else p u o y hu q hq'
              rw [show atT.ixP (setP (inn t) (Int.ofNat n).toNat fun u => chT p u o) (Int.ofNat n) = some (m, chT p u o) from ix_ch hk, show atT.ixP (inn t) (Int.ofNat n) = some (m, u) from hk]
              dsimp only
              revert ih
              cases atT (chT p u o) q with
              | none =>
                cases atT u q with
                | none => exact fun _ => trivial
                | some b => exact fun z => z.elim
              | some a =>
                cases atT u q with
                | none => exact fun z => z.elim
                | some b => exact fun z => ⟨by rw [z.1], z.2⟩
            · rw [show atT.ixP (setP (inn t) (Int.ofNat n).toNat fun u => chT p u o) (Int.ofNat i) = atT.ixP (inn t) (Int.ofNat i) from ix_ne hi]
              exact SameAt.refl _
theorem set_self {α : Type} {l : List α} {n : Nat} {a : α} (h : l[n]? = some a) : l.set n a = l := by
  refine List.ext_getElem? fun i => ?_
  by_cases hi : n = i
  · subst hi
    rw [List.getElem?_set_self (List.getElem?_eq_some_iff.mp h).1, h]
  · rw [List.getElem?_set_ne hi]
/-- changed back -/
theorem ch_back : ∀ (p : Pl) (t o : Tm) (z : Nat × Tm), atT t p = some z → chT p (chT p t o) z.2 = t
  | [], t, o, z, h => by
    rw [atT] at h
    cases h
    rfl
  | k :: p, t, o, z, h => by
    rw [atT] at h
    cases k with
    | negSucc n => cases h
    | ofNat n =>
      cases hk : (inn t)[n]? with
      | none => rw [show atT.ixP (inn t) (Int.ofNat n) = none from hk] at h; cases h
      | some w =>
        obtain ⟨m, u⟩ := w
        rw [show atT.ixP (inn t) (Int.ofNat n) = some (m, u) from hk] at h
        dsimp only at h
        cases hu : atT u p with
        | none => rw [hu] at h; cases h
        | some y =>
          rw [hu] at h
          cases h
          have ih := ch_back p u o y hu
          cases t with
          | name j => simp [inn] at hk
          | sign v ps =>
            have hk : ps[n]? = some (m, u) := hk
            show Tm.sign v (setP (setP ps n fun u => chT p u o) n fun u => chT p u y.2) = _
            congr 1
            have e1 : setP ps n (fun u => chT p u o) = ps.set n (m, chT p u o) := by unfold setP; rw [hk]
            have e2 : (ps.set n (m, chT p u o))[n]? = some (m, chT p u o) := by rw [List.getElem?_set_self (List.getElem?_eq_some_iff.mp hk).1]
            rw [e1]
            unfold setP
            rw [e2]
            dsimp only
            rw [ih, List.set_set, set_self hk]
          | hole v ts =>
            have hk : (ts.map fun t => (0, t))[n]? = some (m, u) := hk
            rw [List.getElem?_map] at hk
            obtain ⟨u', hu', e⟩ := Option.map_eq_some_iff.mp hk
            cases e
            show Tm.hole v (setT (setT ts n fun u => chT p u o) n fun u => chT p u y.2) = _
            congr 1
            have e1 : setT ts n (fun u => chT p u o) = ts.set n (chT p u o) := by unfold setT; rw [hu']
            have e2 : (ts.set n (chT p u o))[n]? = some (chT p u o) := by rw [List.getElem?_set_self (List.getElem?_eq_some_iff.mp hu').1]
            rw [e1]
            unfold setT
            rw [e2]
            dsimp only
            rw [ih, List.set_set, set_self hu']
/-! ### how great -/
theorem mem_setP {ps : List (Nat × Tm)} {n : Nat} {f : Tm → Tm} {q : Nat × Tm} (h : q ∈ setP ps n f) : q ∈ ps ∨ ∃ m u, (m, u) ∈ ps ∧ q = (m, f u) := by
  unfold setP at h
  split at h
  · rename_i m u e
    rcases List.mem_or_eq_of_mem_set h with h | h
    · exact .inl h
    · exact .inr ⟨m, u, List.mem_of_getElem? e, h⟩
  · exact .inl h
theorem word_ch {k : Int} {p : Pl} {t o : Tm} : wordOf (chT (k :: p) t o) = wordOf t := by cases t <;> rfl
theorem ok_ch : ∀ (p : Pl) (t o : Tm), okT t → okT o → okT (chT p t o)
  | [], t, o, _, h => h
  | k :: p, t, o, h, ho => by
    rw [okT_eq] at h ⊢
    refine ⟨fun w e => h.1 w (by rw [← word_ch (k := k) (p := p) (o := o)]; exact e), fun q hq => ?_⟩
    rw [inn_ch] at hq
    rcases mem_setP hq with hq | ⟨m, u, hm, rfl⟩
    · exact h.2 q hq
    · exact ok_ch p u o (h.2 _ hm) ho
theorem dep_ch : ∀ (p : Pl) (t o : Tm), depT (chT p t o) ≤ depT t + depT o
  | [], t, o => Nat.le_add_left _ _
  | k :: p, t, o => by
    rw [depT_eq (chT (k :: p) t o), inn_ch, depT_eq t]
    have : ((setP (inn t) k.toNat fun u => chT p u o).map fun q => depT q.2).foldr max 0 ≤ ((inn t).map fun q => depT q.2).foldr max 0 + depT o := foldr_max_le fun x hx => by
      obtain ⟨q, hq, rfl⟩ := List.mem_map.mp hx
      rcases mem_setP hq with hq | ⟨m, u, hm, rfl⟩
      · have := le_foldr_max (List.mem_map.mpr ⟨q, hq, rfl⟩ : depT q.2 ∈ (inn t).map fun q => depT q.2)
        omega
      · have := le_foldr_max (List.mem_map.mpr ⟨(m, u), hm, rfl⟩ : depT u ∈ (inn t).map fun q => depT q.2)
        have := dep_ch p u o
        show depT (chT p u o) ≤ _
        omega
    omega
theorem sum_setP {f : Tm → Tm} {c : Nat} (hf : ∀ u, sizeT (f u) ≤ sizeT u + c) : ∀ (ps : List (Nat × Tm)) (n : Nat), ((setP ps n f).map fun q => sizeT q.2).sum ≤ (ps.map fun q => sizeT q.2).sum + c
  | [], n => by unfold setP; simp
  | q :: ps, 0 => by
    obtain ⟨m, u⟩ := q
    show (sizeT (f u) + (ps.map fun q => sizeT q.2).sum) ≤ sizeT u + (ps.map fun q => sizeT q.2).sum + c
    have := hf u
    omega
  | q :: ps, n + 1 => by
    have ih := sum_setP hf ps n
    have e : setP (q :: ps) (n + 1) f = q :: setP ps n f := by
      unfold setP
      show (match ps[n]? with
        | some (m, u) => q :: ps.set n (m, f u)
        | none => q :: ps) = _
      cases ps[n]? with
      | none => rfl
      | some w => rfl
    rw [e, List.map_cons, List.sum_cons, List.map_cons, List.sum_cons]
    omega
theorem size_ch : ∀ (p : Pl) (t o : Tm), sizeT (chT p t o) ≤ sizeT t + sizeT o
  | [], t, o => Nat.le_add_left _ _
  | k :: p, t, o => by
    rw [sizeT_eq (chT (k :: p) t o), inn_ch, sizeT_eq t]
    have := sum_setP (f := fun u => chT p u o) (c := sizeT o) (fun u => size_ch p u o) (inn t) k.toNat
    omega
end HA

/-! Dicts, part 1: {}, d[k], d[k] = v. -/
namespace HA
open PySem PySem.Spec PyProof.Rows L2
def keyAs : List AV → Option (List Key)
  | [] => some []
  | .int i :: xs => (keyAs xs).map (.inl i :: ·)
  | .str x :: xs => (keyAs xs).map (.inr x :: ·)
  | _ => none
def keyA : AV → Option DK
  | .int i => some (.k (.inl i))
  | .str x => some (.k (.inr x))
  | .tup xs => (keyAs xs).map .t
  | _ => none
theorem keyAs_rep {K : PySem.W.Frag} {H : Hp} {m : MM} : ∀ {xs : List AV} {ks : List Key} {vs : List V}, keyAs xs = some ks → RepVs K H m xs vs → vs = ks.map kV
  | [], ks, vs, e, h => by cases e; cases h; rfl
  | x :: xs, ks, vs, e, h => by
    obtain ⟨v, r, rfl, h1, h2⟩ := h
    cases x with
    | int i =>
      obtain ⟨q, e1, rfl⟩ := Option.map_eq_some_iff.mp (show (keyAs xs).map (.inl i :: ·) = some ks from e)
      rw [keyAs_rep e1 h2, show v = V.int i from h1]
      rfl
    | str i =>
      obtain ⟨q, e1, rfl⟩ := Option.map_eq_some_iff.mp (show (keyAs xs).map (.inr i :: ·) = some ks from e)
      rw [keyAs_rep e1 h2, show v = V.str i from h1]
      rfl
    | _ => exact nomatch e
/-- a key's value -/
def KeyV (H : Hp) (m : MM) (k : DK) (v : V) : Prop := match k with
  | .k q => v = kV q
  | .t ks => ∃ b, v = .ref b ∧ Pin H m b (.tup (ks.map kV))
theorem keyA_rep {K : PySem.W.Frag} {H : Hp} {m : MM} {x : AV} {k : DK} {v : V} (e : keyA x = some k) (h : RepV K H m x v) : KeyV H m k v := by
  cases x with
  | int i => cases e; exact h
  | str i => cases e; exact h
  | tup xs =>
    obtain ⟨ks, e1, rfl⟩ := Option.map_eq_some_iff.mp (show (keyAs xs).map .t = some k from e)
    obtain ⟨a, vs, rfl, h1, _, h2⟩ := h
    refine ⟨a, rfl, ?_⟩
    rw [← keyAs_rep e1 h2]
    exact h1
  | _ => exact nomatch e
def dctA (S : Sto) : AV → Option (List DK × List AV)
  | .fd ks xs => some (ks, xs)
  | .ref n => match S[n]? with
    | some (.dct ks xs) => some (ks, xs)
    | _ => none
  | _ => none
def lookD (k : DK) : List DK → List AV → Option AV
  | q :: ks, x :: xs => if q = k then some x else lookD k ks xs
  | _, _ => none
def replX (k : DK) (y : AV) : List DK → List AV → List AV
  | q :: ks, x :: xs => (if q = k then y else x) :: replX k y ks xs
  | _, _ => []
def putKs (k : DK) (ks : List DK) : List DK := if k ∈ ks then ks else ks ++ [k]
def putX (k : DK) (y : AV) (ks : List DK) (xs : List AV) : List AV := if k ∈ ks then replX k y ks xs else xs ++ [y]
/-- the dict as it lies there -/
def Lies (K : PySem.W.Frag) (H : Hp) (m : MM) (ks : List DK) (xs : List AV) (a : Addr) : Prop :=
  (∃ kvs : List (Key × V), Rd H a (.dK kvs) ∧ ks = kvs.map (fun p => DK.k p.1) ∧ RepVs K H m xs (kvs.map (·.2))) ∨
  (∃ kvs : List (List Key × V), Rd H a (.dT kvs) ∧ kvs ≠ [] ∧ ks = kvs.map (fun p => DK.t p.1) ∧ RepVs K H m xs (kvs.map (·.2)))
section
variable {K : PySem.W.Frag} {H : Hp} {m : MM} {S : Sto}
theorem dctA_rep {x : AV} {v : V} {ks : List DK} {xs : List AV} (r : RepS K H m S) (h : RepV K H m x v) (e : dctA S x = some (ks, xs)) : ∃ a, v = .ref a ∧ xs.length ≤ sizeLine ∧ Lies K H m ks xs a := by
  cases x with
  | fd ks' xs' =>
    cases e
    obtain ⟨a, o, rfl, h1, hz, h2⟩ := h
    refine ⟨a, rfl, hz, ?_⟩
    rcases h2 with ⟨kvs, rfl, e2, h4⟩ | ⟨kvs, ⟨rfl, hn⟩, e2, h4⟩
    · exact .inl ⟨kvs, h1.imp (·.1) fun ⟨b, z⟩ => ⟨b, z.1⟩, e2, h4⟩
    · exact .inr ⟨kvs, h1.imp (·.1) fun ⟨b, z⟩ => ⟨b, z.1⟩, hn, e2, h4⟩
  | ref n =>
    unfold dctA at e
    dsimp only at e
    split at e
    · rename_i ks' xs' hn
      cases e
      obtain ⟨a, ha, rfl⟩ := h
      obtain ⟨o, h1, hz, h2⟩ := r.at_ n _ a hn ha
      refine ⟨a, rfl, hz, ?_⟩
      rcases h2 with ⟨kvs, rfl, e2, h4⟩ | ⟨kvs, ⟨rfl, hne⟩, e2, h4⟩
      · exact .inl ⟨kvs, .inl h1, e2, h4⟩
      · exact .inr ⟨kvs, .inl h1, hne, e2, h4⟩
    · cases e
  | _ => exact nomatch e
theorem look_k {q : Key} : ∀ {kvs : List (Key × V)} {xs : List AV} {y : AV}, RepVs K H m xs (kvs.map (·.2)) → lookD (.k q) (kvs.map fun p => DK.k p.1) xs = some y → ∃ v, valV kvs q = some v ∧ RepV K H m y v
  | [], xs, y, h, e => by cases xs <;> exact nomatch e
  | p :: kvs, [], y, h, e => nomatch e
  | p :: kvs, x :: xs, y, h, e => by
    obtain ⟨v, r, e1, h1, h2⟩ := h
    obtain ⟨rfl, rfl⟩ := List.cons.inj e1
    by_cases hq : p.1 = q
    · have e : (if DK.k p.1 = DK.k q then some x else lookD (.k q) (kvs.map fun p => DK.k p.1) xs) = some y := e
      rw [if_pos (by rw [hq])] at e
      cases e
      exact ⟨p.2, valV_pos hq, h1⟩
    · have e : (if DK.k p.1 = DK.k q then some x else lookD (.k q) (kvs.map fun p => DK.k p.1) xs) = some y := e
      rw [if_neg (fun z => hq (DK.k.inj z))] at e
      rw [valV_neg hq]
      exact look_k h2 e
theorem look_t {q : List Key} : ∀ {kvs : List (List Key × V)} {xs : List AV} {y : AV}, RepVs K H m xs (kvs.map (·.2)) → lookD (.t q) (kvs.map fun p => DK.t p.1) xs = some y → ∃ v, valV kvs q = some v ∧ RepV K H m y v
  | [], xs, y, h, e => by cases xs <;> exact nomatch e
  | p :: kvs, [], y, h, e => nomatch e
  | p :: kvs, x :: xs, y, h, e => by
    obtain ⟨v, r, e1, h1, h2⟩ := h
    obtain ⟨rfl, rfl⟩ := List.cons.inj e1
    by_cases hq : p.1 = q
    · have e : (if DK.t p.1 = DK.t q then some x else lookD (.t q) (kvs.map fun p => DK.t p.1) xs) = some y := e
      rw [if_pos (by rw [hq])] at e
      cases e
      exact ⟨p.2, valV_pos hq, h1⟩
    · have e : (if DK.t p.1 = DK.t q then some x else lookD (.t q) (kvs.map fun p => DK.t p.1) xs) = some y := e
      rw [if_neg (fun z => hq (DK.t.inj z))] at e
      rw [valV_neg hq]
      exact look_t h2 e
theorem look_kt {q : Key} : ∀ (kvs : List (List Key × V)) (xs : List AV), lookD (.k q) (kvs.map fun p => DK.t p.1) xs = none
  | [], xs => by cases xs <;> rfl
  | p :: kvs, [] => rfl
  | p :: kvs, x :: xs => by
    show (if DK.t p.1 = DK.k q then some x else lookD (.k q) (kvs.map fun p => DK.t p.1) xs) = none
    rw [if_neg (fun z => nomatch z)]
    exact look_kt kvs xs
theorem look_tk {q : List Key} : ∀ (kvs : List (Key × V)) (xs : List AV), lookD (.t q) (kvs.map fun p => DK.k p.1) xs = none
  | [], xs => by cases xs <;> rfl
  | p :: kvs, [] => rfl
  | p :: kvs, x :: xs => by
    show (if DK.k p.1 = DK.t q then some x else lookD (.t q) (kvs.map fun p => DK.k p.1) xs) = none
    rw [if_neg (fun z => nomatch z)]
    exact look_tk kvs xs
theorem get_of {ks : List DK} {xs : List AV} {a : Addr} {k : DK} {w : V} {y : AV} (l : Lies K H m ks xs a) (hk : KeyV H m k w) (e : lookD k ks xs = some y) : ∃ v, DGet H a w (some v) ∧ RepV K H m y v := by
  rcases l with ⟨kvs, h1, rfl, h3⟩ | ⟨kvs, h1, hn, rfl, h3⟩
  · cases k with
    | k q =>
      obtain ⟨v, e1, r⟩ := look_k h3 e
      exact ⟨v, .inl ⟨kvs, q, h1, hk, e1.symm⟩, r⟩
    | t q => rw [look_tk] at e; cases e
  · cases k with
    | k q => rw [look_kt] at e; cases e
    | t q =>
      obtain ⟨v, e1, r⟩ := look_t h3 e
      obtain ⟨b, rfl, hb⟩ := hk
      exact ⟨v, .inr ⟨kvs, q, b, h1, rfl, hb.1, e1.symm⟩, r⟩
end
/-- d[k] -/
def aDGet (td ty : ATE) : ATE := fun ρ S Q => td ρ S fun x S1 => ty ρ S1 fun y S2 => match dctA S2 x, keyA y with
  | some (ks, xs), some k => match lookD k ks xs with
    | some v => Q v S2
    | none => False
  | _, _ => False
/-- {} -/
def aDNew : ATE := fun _ S Q => Q (.ref S.length) (S ++ [.dct [] []])
section
variable {X : Cx} {o i e value : Expr} {pos pos' : Pos} {td ty tv : ATE}
theorem se_dget (hu : X.A.units + maxDep < cLine) (ho : SE X o td) (hi : SE X i ty) (hs : NoSl i := by exact fun _ _ => rfl) : SE X (.Subscript o i pos) (aDGet td ty) := by
  refine PE.imp (pe_dget (by unfold maxDep at hu; omega) ho hi hs) fun σ H Q h => ?_
  obtain ⟨m, S, ρ, QA, rS, rE, h, fin⟩ := h
  refine ⟨m, S, ρ, _, rS, rE, h, fun H1 m1 S1 x v s1 rS1 rv1 q1 => ?_⟩
  refine ⟨m1, S1, ρ, _, rS1, rE.stp s1, q1, fun H2 m2 S2 y w s2 rS2 rv2 q2 => ?_⟩
  split at q2
  · rename_i ks xs k e1 e2
    split at q2
    · rename_i z e3
      obtain ⟨a, rfl, _, l⟩ := dctA_rep rS2 (rv1.stp s2) e1
      obtain ⟨u, g, r⟩ := get_of l (keyA_rep e2 rv2) e3
      exact ⟨a, u, rfl, g, fin H2 m2 S2 z u (s1.trans s2) rS2 r q2⟩
    · exact q2.elim
  · exact q2.elim
theorem se_dnew : SE X (.Dict [] [] pos) aDNew := PE.imp pe_dnewK fun σ H Q h => by
  obtain ⟨m, S, ρ, QA, rS, rE, h, fin⟩ := h
  intro p hp
  have e : Stp H m (upd H p (.dK [])) (m.snoc p) := stp_cell hp
  refine fin _ (m.snoc p) (S ++ [.dct [] []]) (.ref S.length) _ e (rS.cell (c := .dct [] []) hp ⟨_, upd_same, Nat.zero_le _, .inl ⟨[], rfl, rfl, rfl⟩⟩) ⟨p, ?_, rfl⟩ (show QA (.ref S.length) (S ++ [.dct [] []]) from h)
  rw [← rS.len]; simp
end
/-- an empty dict may be told as one of tuple keys -/
theorem inv_switch {X : Cx} {pins : List (Addr × Obj)} {σ : L2.St} {H : Hp} {s : Shared} {a : Addr} (I : Inv X pins σ H s) (e : H a = some (.dK [])) : Inv X pins σ (upd H a (.dT [])) s := by
  obtain ⟨z, hd, vs, rel, o, es, ep, ho, hx, hdt, h4, h5, h6⟩ := (show ObjOk X.prog X.w H s.heap a (.dK []) from I.hok a _ e)
  have hv : vs = [] := by
    have l := Paired.length rel
    cases vs with
    | nil => rfl
    | cons v vs => simp at l
  subst hv
  have he : es.toList = [] := by
    have l := h5.length
    simpa using l
  have new : ObjOk X.prog X.w (upd H a (.dT [])) s.heap a (.dT []) := ⟨Nat.zero_le _, hd, [], .nil, o, es, ep, ho, hx, hdt, he, List.nodup_nil⟩
  exact I.write (h' := s.heap) (t' := s.toks) (x := a) (e := a) (by rw [e]; exact True.intro) (.inl rfl) (fun b u _ q => q) ⟨o, ho⟩ new
theorem upd_two {H : Hp} {a : Addr} {o p : HO} : upd (upd H a o) a p = upd H a p := by
  funext b
  by_cases h : b = a
  · subst h; rw [upd_same, upd_same]
  · rw [upd_ne h, upd_ne h, upd_ne h]
def DPut' (H : Hp) (a : Addr) (y v : V) (H' : Hp) : Prop := DPut H a y v H' ∨ (H a = some (.dK []) ∧ ∃ b k, y = .ref b ∧ H b = some (.tup (k.map kV)) ∧ H' = upd H a (.dT [(k, v)]))
def sDPut' (td ty tv : TE) : TS := fun D σ H => tv σ H fun v H1 => td σ H1 fun x H2 => ty σ H2 fun y H3 => ∃ a H4, x = .ref a ∧ DPut' H3 a y v H4 ∧ D.nx σ H4
theorem ps_dput' {X : Cx} {o i value : Expr} {pos pos' : Pos} {td ty tv : TE} (hu : X.A.units + 1 < cLine) (ho : PE X o td) (hi : PE X i ty) (hv : PE X value tv) (hs : swapsWith value (some (.Subscript o i pos')) pos.line X.env = pure false) :
    PS X (.Assign [.Subscript o i pos'] value pos) (sDPut' td ty tv) := by
  refine ⟨fun pins s σ H D I h => ?_⟩
  refine wpAny_Assign_Subscript (thn (hv.run pins s σ H _ I h) fun r s1 ⟨v, H1, I1, rv, q1⟩ => thn (ho.run pins s1 σ H1 _ I1 q1) fun u s2 ⟨x, H2, I2, rx, q2⟩ => thn (hi.run pins s2 σ H2 _ I2 q2) fun iv s3 ⟨y, H3, I3, ry, a, H4, ex, g, q3⟩ => ?_) hs
  subst ex
  obtain rfl : u = Value.ref a := rx
  rcases g with g | ⟨e, b, k, rfl, eb, rfl⟩
  · exact d_setItem hu I3 g ry rv fun s4 I4 => ⟨σ, H4, I4, q3⟩
  · have hne : b ≠ a := fun z => by rw [z, e] at eb; cases eb
    have g : DPut (upd H3 a (.dT [])) a (.ref b) v (upd H3 a (.dT [(k, v)])) := .inr ⟨[], k, b, upd_same, rfl, by rw [upd_ne hne]; exact eb, by show 0 < sizeLine; decide, by rw [upd_two]; rfl⟩
    exact d_setItem hu (inv_switch I3 e) g ry rv fun s4 I4 => ⟨σ, _, I4, q3⟩
def fitK : DK → DK → Bool
  | .k _, .k _ => true
  | .t _, .t _ => true
  | _, _ => false
def rDPutA (x y v : AV) (S : Sto) (R : Sto → Prop) : Prop := match x with
  | .ref n => match S[n]?, keyA y with
    | some (.dct ks xs), some k => (ks.all (fitK k) = true ∧ xs.length < sizeLine) ∧ R (S.set n (.dct (putKs k ks) (putX k v ks xs)))
    | _, _ => False
  | _ => False
def aDPut (tv td ty : ATE) : ATS := fun D ρ S => tv ρ S fun v S1 => td ρ S1 fun x S2 => ty ρ S2 fun y S3 => rDPutA x y v S3 fun S4 => D.nx ρ S4
theorem rDPutA_of {x y v : AV} {S : Sto} {R : Sto → Prop} (h : rDPutA x y v S R) : ∃ n ks xs k, x = .ref n ∧ S[n]? = some (.dct ks xs) ∧ keyA y = some k ∧ ks.all (fitK k) = true ∧ xs.length < sizeLine ∧ R (S.set n (.dct (putKs k ks) (putX k v ks xs))) := by
  unfold rDPutA at h
  split at h
  · split at h
    · exact ⟨_, _, _, _, rfl, by assumption, by assumption, h.1.1, h.1.2, h.2⟩
    · exact h.elim
  · exact h.elim
theorem rDPutA_i {y v : AV} {S : Sto} {R : Sto → Prop} {n : Nat} {ks : List DK} {xs : List AV} {k : DK} (h1 : S[n]? = some (.dct ks xs)) (h2 : keyA y = some k) (h3 : ks.all (fitK k) = true) (h4 : xs.length < sizeLine) (q : R (S.set n (.dct (putKs k ks) (putX k v ks xs)))) : rDPutA (.ref n) y v S R := by
  unfold rDPutA
  dsimp only
  rw [h1, h2]
  exact ⟨⟨h3, h4⟩, q⟩
theorem put_keys {κ : Type} [DecidableEq κ] (f : κ → DK) (hf : ∀ a b, f a = f b → a = b) (kvs : List (κ × V)) (q : κ) (v : V) : (putK kvs q v).map (fun p => f p.1) = putKs (f q) (kvs.map fun p => f p.1) := by
  unfold putK putKs
  have e : (kvs.any fun kv => decide (kv.1 = q)) = true ↔ f q ∈ kvs.map fun p => f p.1 := by
    rw [List.any_eq_true]
    constructor
    · rintro ⟨p, hp, h⟩
      exact List.mem_map.mpr ⟨p, hp, by rw [of_decide_eq_true h]⟩
    · intro h
      obtain ⟨p, hp, h⟩ := List.mem_map.mp h
      exact ⟨p, hp, decide_eq_true (hf _ _ h)⟩
  by_cases h : (kvs.any fun kv => decide (kv.1 = q)) = true
  · rw [if_pos h, if_pos (e.mp h), List.map_map]
    refine List.map_congr_left fun p _ => ?_
    show f (if p.1 = q then (p.1, v) else p).1 = f p.1
    split <;> rfl
  · rw [if_neg h, if_neg (fun z => h (e.mpr z)), List.map_append]
    rfl
theorem repl_rep {K : PySem.W.Frag} {H : Hp} {m : MM} {κ : Type} [DecidableEq κ] (f : κ → DK) (hf : ∀ a b, f a = f b → a = b) {q : κ} {v : V} {y : AV} (hy : RepV K H m y v) : ∀ {kvs : List (κ × V)} {xs : List AV}, RepVs K H m xs (kvs.map (·.2)) →
    RepVs K H m (replX (f q) y (kvs.map fun p => f p.1) xs) ((kvs.map fun kv => if kv.1 = q then (kv.1, v) else kv).map (·.2))
  | [], xs, h => by
    cases xs with
    | nil => exact h
    | cons x xs => obtain ⟨_, _, e, _⟩ := h; cases e
  | p :: kvs, [], h => nomatch h
  | p :: kvs, x :: xs, h => by
    obtain ⟨u, r, e1, h1, h2⟩ := h
    obtain ⟨rfl, rfl⟩ := List.cons.inj e1
    refine ⟨(if p.1 = q then (p.1, v) else p).2, _, rfl, ?_, repl_rep f hf hy h2⟩
    by_cases hq : p.1 = q
    · rw [if_pos hq, if_pos (show f p.1 = f q by rw [hq])]
      exact hy
    · rw [if_neg hq, if_neg (fun z => hq (hf _ _ z))]
      exact h1
theorem put_reps {K : PySem.W.Frag} {H : Hp} {m : MM} {κ : Type} [DecidableEq κ] (f : κ → DK) (hf : ∀ a b, f a = f b → a = b) {q : κ} {v : V} {y : AV} (hy : RepV K H m y v) {kvs : List (κ × V)} {xs : List AV} (h : RepVs K H m xs (kvs.map (·.2))) :
    RepVs K H m (putX (f q) y (kvs.map fun p => f p.1) xs) ((putK kvs q v).map (·.2)) := by
  unfold putK putX
  have e : (kvs.any fun kv => decide (kv.1 = q)) = true ↔ f q ∈ kvs.map fun p => f p.1 := by
    rw [List.any_eq_true]
    constructor
    · rintro ⟨p, hp, h⟩
      exact List.mem_map.mpr ⟨p, hp, by rw [of_decide_eq_true h]⟩
    · intro h
      obtain ⟨p, hp, h⟩ := List.mem_map.mp h
      exact ⟨p, hp, decide_eq_true (hf _ _ h)⟩
  by_cases hq : (kvs.any fun kv => decide (kv.1 = q)) = true
  · rw [if_pos hq, if_pos (e.mp hq)]
    exact repl_rep f hf hy h
  · rw [if_neg hq, if_neg (fun z => hq (e.mpr z)), List.map_append]
    exact h.append (.one hy)
theorem putX_len {k : DK} {y : AV} {ks : List DK} {xs : List AV} : (putX k y ks xs).length ≤ xs.length + 1 := by
  have r : ∀ (ks : List DK) (xs : List AV), (replX k y ks xs).length ≤ xs.length := by
    intro ks
    induction ks with
    | nil => intro xs; cases xs <;> exact Nat.zero_le _
    | cons q ks ih =>
      intro xs
      cases xs with
      | nil => exact Nat.zero_le _
      | cons x xs =>
        show (replX k y ks xs).length + 1 ≤ xs.length + 1
        have := ih xs
        omega
  unfold putX
  split
  · have := r ks xs; omega
  · rw [List.length_append]; exact Nat.le_refl _
theorem ss_dput {X : Cx} {o i value : Expr} {pos pos' : Pos} {td ty tv : ATE} (hu : X.A.units + maxDep < cLine) (hv : SE X value tv) (ho : SE X o td) (hi : SE X i ty) (hs : swapsWith value (some (.Subscript o i pos')) pos.line X.env = pure false := by rfl) :
    SS X (.Assign [.Subscript o i pos'] value pos) (aDPut tv td ty) := PS.imp (ps_dput' (by unfold maxDep at hu; omega) ho hi hv hs) fun D σ H h => by
  obtain ⟨m, S, ρ, DA, rS, rE, h, d⟩ := h
  refine ⟨m, S, ρ, _, rS, rE, h, fun H1 m1 S1 x v s1 rS1 rv1 q1 => ?_⟩
  refine ⟨m1, S1, ρ, _, rS1, rE.stp s1, q1, fun H2 m2 S2 z w s2 rS2 rv2 q2 => ?_⟩
  refine ⟨m2, S2, ρ, _, rS2, rE.stp (s1.trans s2), q2, fun H3 m3 S3 y u s3 rS3 rv3 q3 => ?_⟩
  obtain ⟨n, ks, xs, k, rfl, e1, e2, hf, hl, q⟩ := rDPutA_of q3
  obtain ⟨a, ha, rfl⟩ := rv2.stp s3
  obtain ⟨a', ha', o', h1, hz, h2⟩ := rS3.ix e1
  rw [ha] at ha'
  cases ha'
  have kv := keyA_rep e2 rv3
  have rx := rv1.stp (s2.trans s3)
  have sT := (s1.trans s2).trans s3
  have hz' : (putX k x ks xs).length ≤ sizeLine := by have := putX_len (k := k) (y := x) (ks := ks) (xs := xs); omega
  have fin : ∀ o2, (∀ H' m', Stp H3 m3 H' m' → DRep (RepVs X.K H' m') (putKs k ks) (putX k x ks xs) o2) → D.nx σ (upd H3 a o2) := fun o2 hd => by
    have st : Stp H3 m3 (upd H3 a o2) m3 := stp_set ha
    exact d.nx _ m3 _ ρ σ (sT.trans st) (rS3.set (c := .dct (putKs k ks) (putX k x ks xs)) ha ⟨o2, upd_same, hz', hd _ _ st⟩) (rE.stp (sT.trans st)) q
  rcases h2 with ⟨kvs, rfl, e3, h4⟩ | ⟨kvs, ⟨rfl, hne⟩, e3, h4⟩
  · have l := h4.length
    rw [List.length_map] at l
    cases k with
    | k p =>
      refine ⟨a, _, rfl, .inl (.inl ⟨kvs, p, h1, kv, by omega, rfl⟩), fin _ fun H' m' st => .inl ⟨_, rfl, ?_, ?_⟩⟩
      · rw [e3, put_keys DK.k fun _ _ z => DK.k.inj z]
      · rw [e3]
        exact put_reps DK.k (fun _ _ z => DK.k.inj z) (rx.stp st) (RepVs.stp st _ _ h4)
    | t p =>
      have hk : kvs = [] := by
        cases kvs with
        | nil => rfl
        | cons z zs => rw [e3] at hf; exact absurd hf (by simp [fitK])
      subst hk
      subst e3
      have hx : xs = [] := List.eq_nil_of_length_eq_zero (by simpa using l)
      subst hx
      obtain ⟨b, rfl, hb⟩ := kv
      refine ⟨a, _, rfl, .inr ⟨h1, b, p, rfl, hb.1, rfl⟩, fin _ fun H' m' st => .inr ⟨[(p, v)], ⟨rfl, fun z => nomatch z⟩, rfl, ?_⟩⟩
      exact ⟨v, [], rfl, rx.stp st, rfl⟩
  · have l := h4.length
    rw [List.length_map] at l
    cases k with
    | k p =>
      exfalso
      cases kvs with
      | nil => exact hne rfl
      | cons z zs => rw [e3] at hf; exact absurd hf (by simp [fitK])
    | t p =>
      obtain ⟨b, rfl, hb⟩ := kv
      refine ⟨a, _, rfl, .inl (.inr ⟨kvs, p, b, h1, rfl, hb.1, by omega, rfl⟩), fin _ fun H' m' st => .inr ⟨_, ⟨rfl, fun z => ?_⟩, ?_, ?_⟩⟩
      · unfold putK at z
        split at z
        · exact hne (List.map_eq_nil_iff.mp z)
        · exact absurd z (by simp)
      · rw [e3, put_keys DK.t fun _ _ z => DK.t.inj z]
      · rw [e3]
        exact put_reps DK.t (fun _ _ z => DK.t.inj z) (rx.stp st) (RepVs.stp st _ _ h4)
end HA

/-! Dicts, part 2: for .. in d.items(), d a dict that no one changes any more. -/
namespace HA
open PySem PySem.Spec PyProof.Rows L2
/-- a dict -/
def IsDic : HO → Prop
  | .dK _ => True
  | .dT _ => True
  | _ => False
theorem inv_frz {X : Cx} {pins : List (Addr × Obj)} {σ : L2.St} {H : Hp} {s : Shared} {a : Addr} {u : HO} (hu : IsDic u) (I : Inv X pins σ H s) (e : H a = some u) : ∃ ob, Inv X pins σ (upd H a (.frz ob u)) s := by
  have ok := I.hok a _ e
  cases u with
  | dK kvs =>
    obtain ⟨z, hd, vs, rel, o, es, ep, ho, r⟩ := (show ObjOk X.prog X.w H s.heap a (.dK kvs) from ok)
    exact ⟨o, I.write (h' := s.heap) (t' := s.toks) (x := a) (e := a) (by rw [e]; exact True.intro) (.inl rfl) (fun b u _ q => q) ⟨o, ho⟩ ⟨ho, z, hd, vs, rel, o, es, ep, ho, r⟩⟩
  | dT kvs =>
    obtain ⟨z, hd, xs, rel, o, es, ep, ho, r⟩ := (show ObjOk X.prog X.w H s.heap a (.dT kvs) from ok)
    refine ⟨o, I.write (h' := s.heap) (t' := s.toks) (x := a) (e := a) (by rw [e]; exact True.intro) (.inl rfl) (fun b u _ q => q) ⟨o, ho⟩ ⟨ho, z, hd, xs, KT.keeps rel fun b ys eb => ?_, o, es, ep, ho, r⟩⟩
    rw [upd_ne (fun w => by rw [w, e] at eb; cases eb)]
    exact eb
  | _ => exact hu.elim
theorem upd_self {H : Hp} {a : Addr} {o : HO} (e : H a = some o) : upd H a o = H := by
  funext b
  by_cases h : b = a
  · subst h; rw [upd_same, e]
  · rw [upd_ne h]
/-- the dict is held from now on -/
def tHeld (td : TE) : TE := fun σ H Q => td σ H fun x H1 => ∃ d u, x = .ref d ∧ IsDic u ∧ Rd H1 d u ∧ ∀ ob, (H1 d = some u ∨ H1 d = some (.frz ob u)) → Q x (upd H1 d (.frz ob u))
theorem pe_held {X : Cx} {e : Expr} {td : TE} (h : PE X e td) : PE X e (tHeld td) := by
  refine ⟨fun pins s σ H Q I q => ?_⟩
  refine thn (h.run pins s σ H _ I q) fun v s1 ⟨x, H1, I1, rx, d, u, ex, hu, hd, q1⟩ => ?_
  rcases hd with hd | ⟨ob, hd⟩
  · obtain ⟨ob, I2⟩ := inv_frz hu I1 hd
    exact ⟨x, _, I2, rx, q1 ob (.inl hd)⟩
  · refine ⟨x, _, ?_, rx, q1 ob (.inr hd)⟩
    rw [upd_self hd]
    exact I1
theorem stp_held {H : Hp} {m : MM} {a : Addr} {u : HO} {ob : Obj} (hu : IsDic u) (e : H a = some u ∨ H a = some (.frz ob u)) : Stp H m (upd H a (.frz ob u)) m := by
  refine ⟨List.prefix_rfl, fun b o eb _ => ?_, fun b z => .inl z, fun b z => .inl z, fun b z => z, fun b o eb => live_upd eb⟩
  by_cases h : b = a
  · subst h
    refine ⟨_, upd_same, ?_⟩
    rcases e with e | e
    · rw [e] at eb
      cases eb
      refine .inr ⟨?_, ob, rfl⟩
      cases u <;> first | exact fun z => z | exact hu.elim
    · rw [e] at eb
      cases eb
      exact .inl rfl
  · exact ⟨o, by rw [upd_ne h]; exact eb, .inl rfl⟩
theorem RepS.held {K : PySem.W.Frag} {H : Hp} {m : MM} {S : Sto} {a : Addr} {u : HO} {ob : Obj} (r : RepS K H m S) (hu : IsDic u) (e : H a = some u ∨ H a = some (.frz ob u)) (hc : a ∉ m.c) : RepS K (upd H a (.frz ob u)) m S := by
  refine ⟨r.len, r.nd, fun i c b e1 e2 => (r.at_ i c b e1 e2).stp (stp_held hu e) ?_, fun b hb => ?_, r.dj⟩
  · rw [upd_ne]
    rintro rfl
    exact hc (List.mem_of_getElem? e2)
  · obtain ⟨vs, eb⟩ := r.res b hb
    refine ⟨vs, ?_⟩
    rw [upd_ne]
    · exact eb
    · rintro rfl
      rw [eb] at e
      rcases e with e | e
      · cases e
        exact hu.elim
      · cases e
/-! ### the pairs of a dict with tuple keys -/
def Itit (d : Addr) (o : Obj) (kvs : List (List Key × V)) : It :=
  ⟨fun i H => H d = some (.frz o (.dT kvs)) ∧ i < kvs.length, fun i H x H' => ∃ T k v q, kvs[i]? = some (k, v) ∧ x = .ref T ∧ H T = none ∧ H q = some (.tup (k.map kV)) ∧ (k.map kV).length ≤ sizeLine ∧ H' = upd H T (.tup [.ref q, v]), fun i H => H d = some (.frz o (.dT kvs)) ∧ kvs.length ≤ i⟩
theorem frzT_at {X : Cx} {pins : List (Addr × Obj)} {σ : L2.St} {H : Hp} {s : Shared} {d : Addr} {o : Obj} {kvs : List (List Key × V)} (I : Inv X pins σ H s) (h : H d = some (.frz o (.dT kvs))) :
    (d == sysModules) = false ∧ s.heap.get? d = some o ∧ o.ExactDict ∧ ∃ (es : Array DictEntry) (ep : Nat), o.data = .dict es ep ∧ es.size = kvs.length ∧
      ∀ (i : Nat) (k : List Key) (v : V), kvs[i]? = some (k, v) → ∃ (en : DictEntry) (q : Addr), es[i]? = some en ∧ en.key = .ref q ∧ H q = some (.tup (k.map kV)) ∧ RelV v en.val := by
  obtain ⟨hd, z, hs, xs, pr, o', es, ep, ho, hx, hdt, he, _⟩ := I.hok d _ h
  rw [hd] at ho
  cases ho
  refine ⟨hs, hd, hx, es, ep, hdt, ?_, fun i k v e => ?_⟩
  · have l1 : es.size = xs.length := size_of_entries he
    have l2 : kvs.length = xs.length := Paired.length pr
    omega
  · obtain ⟨b, hb, e1, e2, e3⟩ := paired_get pr e
    have q := entry_at he i
    rw [hb] at q
    exact ⟨_, b.2.1, q, rfl, e2, e3⟩
theorem turn_itemsT {P : Program} {w : World} {K : PySem.W.Frag} {d : Addr} {o : Obj} {es : Array DictEntry} {ep : Nat} {kvs : List (List Key × V)} {elts : List Expr} {kk : Nat} {tpos : Pos} (it : Addr) (hod : o.data = .dict es ep) :
    Turn P w K (.Tuple elts kk tpos) (Itit d o kvs) [it] it (fun i h => ∃ ok ov, IsItemIter h it d i kvs.length ep ok ov) where
  mem := by simp
  obj := fun i h st b hb => by
    obtain rfl : b = it := by simpa using hb
    obtain ⟨ok, ov, e⟩ := st
    exact ⟨_, e, fun v z => nomatch z⟩
  keep := fun i h h' st k => let ⟨ok, ov, e⟩ := st; ⟨ok, ov, k it (by simp) _ e⟩
  item := by
    intro X hP hw hK hc i pins s σ H E I hf st hg
    subst hP hw hK
    obtain ⟨hd, hi⟩ := hg
    obtain ⟨hs, hgd, hx, es', ep', hdt, hsz, ent⟩ := frzT_at I hd
    obtain ⟨rfl, rfl⟩ := dict_ep hod hdt
    obtain ⟨⟨k, v⟩, hkv⟩ : ∃ p, kvs[i]? = some p := ⟨kvs[i], List.getElem?_eq_getElem hi⟩
    obtain ⟨en, q, hen, hkey, hq, rv⟩ := ent i k v hkv
    obtain ⟨ok, ov, he⟩ := st
    rw [← hsz] at he
    have hlt : it < s.heap.objs.size := Heap.lt_size he
    obtain ⟨hi', hen'⟩ := Array.getElem?_eq_some_iff.mp hen
    refine DT.nextI he ⟨o, hgd, hx, hdt⟩ hi' fun h' ho hT hz hk => ?_
    rw [hen', hkey] at ho hT
    refine ⟨_, rfl, wpAny_letOwnedTupleGo_items (s := { s with heap := h' }) ho fun h'' he' sb => ?_⟩
    have hT2 : h''.get? s.heap.objs.size = some { cls := .type "tuple", data := .seq #[.ref q, en.val] } := (sb.2 _ (Nat.ne_of_gt hlt)).trans hT
    have new : ObjOk X.prog X.w (upd H s.heap.objs.size (.tup [.ref q, v])) h'' s.heap.objs.size (.tup [.ref q, v]) :=
      ⟨by show 2 ≤ sizeLine; decide, [.ref q, en.val], .cons rfl (.cons rv .nil), ⟨_, hT2, rfl, _, rfl⟩⟩
    have I1 : Inv X pins σ (upd H s.heap.objs.size (.tup [.ref q, v])) { s with heap := h'' } :=
      I.turnedNew (t' := s.toks) (ch := [it]) (fun b ob hb z => (sb.2 b (by simpa using hb)).trans (hk b ob (by simpa using hb) z)) hf (Nat.le_refl _) new
    refine ⟨.ref s.heap.objs.size, _, I1, rfl, ⟨_, k, v, q, hkv, rfl, I.hok.fresh (Nat.le_refl _), hq, (show ObjOk X.prog X.w H s.heap q (.tup (k.map kV)) from I.hok q _ hq).1, rfl⟩, ⟨.ref q, en.val, ?_⟩, fun b hb => ?_⟩
    · rw [← hsz]; exact he'
    · obtain rfl : b = it := by simpa using hb
      rw [upd_ne (Nat.ne_of_lt hlt)]
      exact (hf b (by simp)).1
  done := by
    intro X hP hw hK hc i pins s σ H E I hf st hg
    subst hP hw hK
    obtain ⟨hd, hi⟩ := hg
    obtain ⟨f0, f1, f2, f3, f4, f5⟩ := hf it (by simp)
    obtain ⟨hs, hgd, hx, es', ep', hdt, hsz, ent⟩ := frzT_at I hd
    obtain ⟨rfl, rfl⟩ := dict_ep hod hdt
    obtain ⟨ok, ov, he⟩ := st
    rw [← hsz] at he
    exact DT.endI (I.ok.hd hc) he ⟨o, hgd, hx, hdt⟩ (by omega) fun h' eb => ⟨rfl, I.turned (t' := s.toks) (fun b ob hb z => eb b ob hb z) f0 f1 f3 f4 f5⟩
  self := fun A i s Q E st h => let ⟨_, _, e⟩ := st; PySem.W.kcp_self e h
def iItemsT (td : TE) : TI := fun σ H R => td σ H fun x H1 => ∃ d o kvs, x = .ref d ∧ H1 d = some (.frz o (.dT kvs)) ∧ R (Itit d o kvs) H1
theorem pi_itemsT {X : Cx} {e : Expr} {td : TE} {apos cpos tpos : Pos} {elts : List Expr} {kk : Nat} (he : PE X e td) (hbase : attributeBase e "items" X.env (eval e X.env) = eval e X.env := by rfl) (hline : (apos.endLine == cpos.line) = true := by rfl) :
    PI X (.Tuple elts kk tpos) (.Call (.Attribute e "items" apos) [] [] cpos) (iItemsT td) := by
  refine ⟨fun pins s σ H R I h => ?_⟩
  refine wpAny_Call_method (T := "dict") (id := "dict.items") hbase rfl hline F.plainAttrs_dict F.slot_dict_items F.type_dict_items (thn (he.run pins s σ H _ I h) fun u s1 ⟨x, H1, I1, rx, d, o, kvs, ex, hd, q⟩ => ?_)
  subst ex
  obtain rfl : u = Value.ref d := rx
  obtain ⟨hs, hgd, hx, es, ep, hdt, hsz, ent⟩ := frzT_at I1 hd
  have raw : DT.Raw s1.heap d es ep := ⟨o, hgd, hx, hdt⟩
  refine ⟨raw.typeIs, fun b z => by cases z; exact ⟨o, hgd, hx.2.1⟩, ?_⟩
  have I2 : Inv X pins σ H1 { s1 with heap := s1.heap.push { cls := .type "dict_items", data := .fields #[.ref d] } } := I1.kept (t' := s1.toks) fun b ob z => Heap.get?_push_of_some _ z
  have fin : wpAny (model X.prog X.w) X.A (pyIter (.ref s1.heap.objs.size)) (PIE X pins σ (.Tuple elts kk tpos) R) X.xe { s1 with heap := s1.heap.push { cls := .type "dict_items", data := .fields #[.ref d] } } := by
    refine DT.iterI (d := d) ⟨_, Heap.get?_push_size _ rfl, rfl, rfl⟩ (raw.push _) (pi_one (tk := s1.toks) I2 _ (turn_itemsT _ hdt) ⟨.none, .none, ?_⟩ q)
    rw [← hsz]
    exact Heap.get?_push_size _ rfl
  show wpAny _ _ (callWith cpos (.builtin "dict.items") [.ref d] [] []) _ X.xe s1
  exact method_meetsIn F.slot_dict_items F.entry_dict_items rfl (PySem.evalArgs_none ⟨rfl, raw.typeIs, F.args_dict_items_1 _, _, DT.meetsItems hs, ⟨raw, fin⟩⟩)
/-! ### the readings -/
def kAV : Key → AV
  | .inl i => .int i
  | .inr x => .str x
def dkAV : DK → AV
  | .k q => kAV q
  | .t ks => .tup (ks.map kAV)
def pairsA (ks : List DK) (xs : List AV) : List AV := (ks.zip xs).map fun p => .tup [dkAV p.1, p.2]
theorem kAV_rep {K : PySem.W.Frag} {H : Hp} {m : MM} (q : Key) : RepV K H m (kAV q) (kV q) := by cases q <;> exact rfl
theorem kAVs_rep {K : PySem.W.Frag} {H : Hp} {m : MM} : ∀ ks : List Key, RepVs K H m (ks.map kAV) (ks.map kV)
  | [] => rfl
  | k :: ks => ⟨_, _, rfl, kAV_rep k, kAVs_rep ks⟩
theorem pairsA_len {ks : List DK} {xs : List AV} (h : ks.length = xs.length) : (pairsA ks xs).length = xs.length := by
  unfold pairsA
  rw [List.length_map, List.length_zip, h, Nat.min_self]
theorem pairsA_get {ks : List DK} {xs : List AV} {i : Nat} {k : DK} {x : AV} (h1 : ks[i]? = some k) (h2 : xs[i]? = some x) : (pairsA ks xs)[i]? = some (.tup [dkAV k, x]) := by
  unfold pairsA
  rw [List.getElem?_map, (List.getElem?_zip_eq_some (z := (k, x))).mpr ⟨h1, h2⟩]
  rfl
def aItemsK (td : ATE) : ATI := fun ρ S R => td ρ S fun x S1 => match x with
  | .fd ks xs => (∀ k ∈ ks, ∃ q, k = .k q) ∧ R (pairsA ks xs) (fun _ => True) S1
  | _ => False
def aItemsT (td : ATE) : ATI := fun ρ S R => td ρ S fun x S1 => match x with
  | .fd ks xs => (ks ≠ [] ∧ ∀ k ∈ ks, ∃ q, k = .t q) ∧ R (pairsA ks xs) (fun _ => True) S1
  | _ => False
section
variable {X : Cx} {e : Expr} {td : ATE} {apos cpos tpos : Pos} {elts : List Expr} {kk : Nat}
theorem fd_pin {K : PySem.W.Frag} {H : Hp} {m : MM} {a : Addr} {o : HO} (h : PinD H m a o) : a ∉ m.c ∧ Rd H a o := by
  rcases h with h | ⟨b, h⟩
  · exact ⟨h.2.1, .inl h.1⟩
  · exact ⟨h.2.1, .inr ⟨b, h.1⟩⟩
theorem key_len {κ : Type} {f : κ → DK} {K : PySem.W.Frag} {H : Hp} {m : MM} {xs : List AV} {kvs : List (κ × V)} (h : RepVs K H m xs (kvs.map (·.2))) : (kvs.map fun p => f p.1).length = xs.length := by
  have l := h.length
  rw [List.length_map] at l
  rw [List.length_map]
  exact l.symm
theorem si_itemsT (he : SE X e td) (hbase : attributeBase e "items" X.env (eval e X.env) = eval e X.env := by rfl) (hline : (apos.endLine == cpos.line) = true := by rfl) : SI X (.Tuple elts kk tpos) (.Call (.Attribute e "items" apos) [] [] cpos) (aItemsT td) :=
  PI.imp (pi_itemsT (pe_held he) hbase hline) fun σ H R h => by
    obtain ⟨m, S, ρ, QA, rS, rE, h, fin⟩ := h
    refine ⟨m, S, ρ, _, rS, rE, h, fun H1 m1 S1 x v s1 rS1 rv1 q1 => ?_⟩
    split at q1
    · rename_i ks xs
      obtain ⟨⟨hne, hk⟩, q⟩ := q1
      obtain ⟨d, o, rfl, hp, hz, hd⟩ := rv1
      obtain ⟨hc, hr⟩ := fd_pin (K := X.K) hp
      rcases hd with ⟨kvs, rfl, e2, h4⟩ | ⟨kvs, ⟨rfl, hn⟩, e2, h4⟩
      · exfalso
        cases kvs with
        | nil => exact hne e2
        | cons z zs =>
          obtain ⟨q, hq⟩ := hk (.k z.1) (by rw [e2]; exact List.mem_cons_self)
          cases hq
      · refine ⟨d, .dT kvs, rfl, trivial, hr, fun ob ho => ⟨d, ob, kvs, rfl, upd_same, ?_⟩⟩
        have st := stp_held (m := m1) (u := .dT kvs) trivial ho
        have rS2 := rS1.held (u := .dT kvs) trivial ho hc
        have r4 := RepVs.stp st _ _ h4
        have ll : ks.length = xs.length := by rw [e2]; exact key_len h4
        have lk : kvs.length = xs.length := by rw [← ll, e2, List.length_map]
        refine fin _ m1 S1 _ _ _ (s1.trans st) rS2 ?_ q
        refine ⟨by rw [pairsA_len ll]; exact hz, fun i H2 m2 S2 hi s2 rS3 _ => ?_, fun H2 m2 S2 s2 rS3 _ => ?_, fun i H2 m2 S2 x H3 hi s2 rS3 _ hy => ?_⟩
        · rw [pairsA_len ll] at hi
          obtain ⟨o', e', f⟩ := s2.old d _ upd_same hc
          rw [f.eq True.intro] at e'
          exact ⟨e', by omega⟩
        · obtain ⟨o', e', f⟩ := s2.old d _ upd_same hc
          rw [f.eq True.intro] at e'
          exact ⟨e', by rw [pairsA_len ll]; omega⟩
        · obtain ⟨T, k, w, q, hkv, rfl, hT, hq, hz2, rfl⟩ := hy
          have st2 : Stp H2 m2 (upd H2 T (.tup [.ref q, w])) m2 := stp_new hT
          have hw : (kvs.map (·.2))[i]? = some w := by rw [List.getElem?_map, hkv]; rfl
          have hlx : i < xs.length := by rw [← lk]; exact (List.getElem?_eq_some_iff.mp hkv).1
          obtain ⟨w', hw', rw'⟩ := r4.get (List.getElem?_eq_getElem hlx)
          rw [hw] at hw'
          cases hw'
          refine ⟨st2, rS3.new hT, .tup [.tup (k.map kAV), xs[i]], pairsA_get (k := .t k) (by rw [e2, List.getElem?_map, hkv]; rfl) (List.getElem?_eq_getElem hlx), ?_⟩
          refine ⟨T, [.ref q, w], rfl, pin_new rS3 hT, (by show 2 ≤ sizeLine; decide), .ref q, [w], rfl, ?_, w, [], rfl, (rw'.stp s2).stp st2, rfl⟩
          exact ⟨q, k.map kV, rfl, (rS3.pinT hq).stp st2, hz2, kAVs_rep k⟩
    · exact q1.elim
end
end HA

/-! Dicts, part 3: sorted(d) of a dict with tuple keys. -/
namespace HA
open PySem PySem.Spec PySem.Calls PySem.SeqAt PyProof.Rows PySem.W L2
/-- the keys as they stand in the dict's own object -/
theorem keys_collect {X : Cx} {pins : List (Addr × Obj)} {σ : L2.St} {H : Hp} {s : Shared} {d : Addr} {kvs : List (List Key × V)} {A : Around} {E : Value → Shared → Prop} {R : List Value → Shared → Prop} (I : Inv X pins σ H s) (hh : A.handled = none) (hd : Rd H d (.dT kvs))
    (h : ∀ h' tk bs, (∀ b o, s.heap.get? b = some o → h'.get? b = some o) → IsKeys H kvs bs → R (bs.map Value.ref) { s with heap := h', toks := tk }) : wpAny (model X.prog X.w) A (collect (.ref d)) R E s := by
  obtain ⟨z, hs, ks, pr, o, es, ep, ho, hx, hdt, he, hn⟩ := (show ObjOk X.prog X.w H s.heap d (.dT kvs) from hd.ok I.hok)
  have l1 : es.size = ks.length := size_of_entries he
  have l2 : kvs.length = ks.length := Paired.length pr
  refine kdu_collect (kdl_raw hs hx hdt) hh ho (by omega) fun h' tk acc kp it => ?_
  have ea : acc.toList = (ks.map fun x => x.2.1).map Value.ref := by
    have hl : acc.toList.length = ks.length := by rw [Array.length_toList, it.1]; exact l1
    rw [List.map_map]
    apply List.ext_getElem?
    intro j
    rw [List.getElem?_map]
    cases hj : acc.toList[j]? with
    | none =>
      have h1 := List.getElem?_eq_none_iff.mp hj
      rw [List.getElem?_eq_none (by omega)]
      rfl
    | some v =>
      obtain ⟨en, hen, hv⟩ := it.2 j v (by rw [← Array.getElem?_toList]; exact hj)
      have qe := entry_at he j
      rw [hen] at qe
      cases hb : ks[j]? with
      | none => rw [hb] at qe; cases qe
      | some b =>
        rw [hb] at qe
        have e2 : en = entryOfKey (tupleKind (mixKind X.prog X.w)) b := Option.some.inj qe
        rw [hv, e2]
        rfl
  rw [ea]
  exact h h' tk _ kp (isKeys_of pr)
theorem keys_reps {K : PySem.W.Frag} {H : Hp} {m : MM} {S : Sto} (r : RepS K H m S) : ∀ {kvs : List (List Key × V)} {bs : List Addr}, IsKeys H kvs bs → (∀ p ∈ kvs, p.1.length ≤ sizeLine) → RepVs K H m (kvs.map fun p => .tup (p.1.map kAV)) (bs.map V.ref)
  | _, _, .nil, _ => rfl
  | _, _, .cons (a := p) (b := b) h t, hz => ⟨.ref b, _, rfl, ⟨b, p.1.map kV, rfl, r.pinT h, by rw [List.length_map]; exact hz p List.mem_cons_self, kAVs_rep _⟩, keys_reps r t fun q hq => hz q (List.mem_cons_of_mem _ hq)⟩
theorem keys_short {X : Cx} {pins : List (Addr × Obj)} {σ : L2.St} {H : Hp} {s : Shared} (I : Inv X pins σ H s) : ∀ {kvs : List (List Key × V)} {bs : List Addr}, IsKeys H kvs bs → ∀ p ∈ kvs, p.1.length ≤ sizeLine
  | _, _, .nil, p, hp => nomatch hp
  | _, _, .cons (a := q) (b := b) h t, p, hp => by
    rcases List.mem_cons.mp hp with rfl | hp
    · have := (show ObjOk X.prog X.w H s.heap b (.tup (p.1.map kV)) from I.hok b _ h).1
      rw [List.length_map] at this
      exact this
    · exact keys_short I t p hp
def rSortTA : RA := fun xs S Q => ∃ ks vs, xs = [.fd ks vs] ∧ (ks ≠ [] ∧ ∀ k ∈ ks, ∃ q, k = .t q) ∧ KeysA (ks.map dkAV) ∧ Q (.fl (sortA id (ks.map dkAV))) S
theorem cr_sortTA {X : Cx} (hc : X.calm = true) (hu : X.A.units + maxDep < cLine) : CallR X (.builtin "sorted") (lRs X.K rSortTA) := by
  intro pins s σ H xs us Q I r h
  obtain ⟨m, S, axs, QA, rS, hx, ⟨ks, vs, rfl, ⟨hne, hk⟩, ko, q⟩, fin⟩ := h
  obtain ⟨v, rfl, rx⟩ := hx.one_of
  obtain ⟨d, o, rfl, hp, hz, hd⟩ := rx
  obtain ⟨hcd, hr⟩ := fd_pin (K := X.K) hp
  obtain rfl := Vals.ref1 r
  rcases hd with ⟨kvs, rfl, e2, h4⟩ | ⟨kvs, ⟨rfl, hn⟩, e2, h4⟩
  · exfalso
    cases kvs with
    | nil => exact hne e2
    | cons z zs =>
      obtain ⟨q, hq⟩ := hk (.k z.1) (by rw [e2]; exact List.mem_cons_self)
      cases hq
  · have ek : ks.map dkAV = kvs.map fun p => AV.tup (p.1.map kAV) := by rw [e2, List.map_map]; rfl
    have lk : kvs.length ≤ sizeLine := by
      have l := h4.length
      rw [List.length_map] at l
      omega
    refine Calls.call_function_entry kind_sorted plain_sorted entry_sorted (args_sorted1 _) ?_
    unfold Builtin.«sorted»
    refine wpAny_bind (m := checkCount "sorted" 1 1 _) (wpAny_pure ?_)
    refine wpAny_bind (keys_collect (A := X.A.in1) I (I.ok.hd hc) hr fun h' tk bs hkeep ib => ?_)
    have lb : bs.length = kvs.length := (Paired.length ib).symm
    have lz : (bs.map Value.ref).length ≤ sizeLine := by rw [List.length_map]; omega
    have I1 : Inv X pins σ H { s with heap := h', toks := tk } := I.kept hkeep
    refine wpAny_bind (wpAny_newList ?_ lz)
    have hoL : (h'.push (seqObj "list" (bs.map Value.ref).toArray 0)).get? h'.objs.size = some (seqObj "list" (bs.map Value.ref).toArray 0) := Heap.get?_push_size _ rfl
    show wpAny _ _ _ _ _ { s with heap := h'.push (seqObj "list" (bs.map Value.ref).toArray 0), toks := tk }
    have fa : FpOk X pins H h'.objs.size := I1.fpOk (Nat.le_refl _) (I1.hok.fresh (Nat.le_refl _))
    have I2 : Inv X pins σ H { s with heap := sortingHeap (h'.push (seqObj "list" (bs.map Value.ref).toArray 0)) h'.objs.size (bs.map Value.ref), toks := tk } :=
      I1.turned (t' := tk) (fun b ob hb e => sortingHeap_old hb (Heap.get?_push_of_some _ e)) fa.1 fa.2.1 fa.2.2.2.1 fa.2.2.2.2.1 fa.2.2.2.2.2
    have rk := keys_reps rS ib (keys_short I ib)
    have rv : Vals (bs.map V.ref) (bs.map Value.ref) := vals_refs bs
    have ed := each_dat I2 (fun y hy => ko.ok y (by rw [ek]; exact hy)) rk rv
    have ea : (kvs.map fun p => AV.tup (p.1.map kAV)).map dat = (ks.map dkAV).map dat := by rw [ek]
    rw [ea] at ed
    have st := sortsTup (prog := X.prog) (w := X.w) (A := X.A.in1.in1) ed ko.alk (fun d hd => by
      obtain ⟨y, hy, rfl⟩ := List.mem_map.mp hd
      obtain ⟨zs, rfl⟩ := ko.tup y hy
      exact ⟨_, rfl⟩) (fun d hd => by
      obtain ⟨y, hy, rfl⟩ := List.mem_map.mp hd
      have := ko.dep y hy
      show X.A.units + 1 + 1 + _ < _
      unfold maxDep at hu
      omega)
    refine wpAny_bind (wpAny_holding (wpAny_call_entry slot_list_sort ⟨_, hoL, rfl⟩ entry_list_sort (list_sort_vals (s := { s with heap := h'.push (seqObj "list" (bs.map Value.ref).toArray 0), toks := tk }) hoL st lz ⟨_, rfl, ?_⟩) (args_list_sort _)))
    have out : EachIs (fun v y => ∃ u, RelV u v ∧ RepV X.K H m y u) (sortVals (dataKind (sortingHeap (h'.push (seqObj "list" (bs.map Value.ref).toArray 0)) h'.objs.size (bs.map Value.ref)) ((ks.map dkAV).map dat)) false (bs.map Value.ref) (bs.map Value.ref)) (sortA id (ks.map dkAV)) := by
      have ee := reps_each rk rv
      rw [← ek] at ee
      refine sortVals_each (κ := dataKind (sortingHeap (h'.push (seqObj "list" (bs.map Value.ref).toArray 0)) h'.objs.size (bs.map Value.ref)) ((ks.map dkAV).map dat)) (fun y => keyToks (dat y)) ee ?_
      exact each_of_map dat (each_keys ko.alk ed)
    obtain ⟨ws, w1, w2⟩ := each_reps out
    obtain ⟨e', he'⟩ := sortedHeap_at (vs := bs.map Value.ref) (out := (sortVals (dataKind (sortingHeap (h'.push (seqObj "list" (bs.map Value.ref).toArray 0)) h'.objs.size (bs.map Value.ref)) ((ks.map dkAV).map dat)) false (bs.map Value.ref) (bs.map Value.ref)).toArray) hoL
    have lw : ws.length ≤ sizeLine := by
      rw [← w2.length, List.length_mergeSort, List.length_map, e2, List.length_map]
      exact lk
    refine wpAny_pure ⟨_, rfl, .ref h'.objs.size, upd H h'.objs.size (.lst ws), I1.laid (t' := tk) (fun b u e => ?_) (Nat.le_refl _) (show ObjOk X.prog X.w _ _ _ (.lst ws) from ⟨lw, _, e', w1, he'⟩), rfl, fin.new (mu := false) rS w2 lw q (I1.hok.fresh (Nat.le_refl _))⟩
    have hb : b < h'.objs.size := Heap.lt_size e
    rw [sortedHeap_old (Nat.ne_of_lt hb) (by rw [size_push']; exact Nat.lt_succ_of_lt hb)]
    exact Heap.get?_push_of_some _ e
end HA

/-! Dicts, part 4: == and != of two dicts with tuple keys that hold the same. -/
namespace HA
open PySem PySem.Spec PySem.Calls PySem.SeqAt PyProof.Rows PySem.W L2
section
variable {prog : Program} {w : World} {κ : Type} [DecidableEq κ] {knd : HeapKind prog w κ} {A : Around} {E : Value → Shared → Prop} {s : Shared}
theorem pairsT {nm : String} {a b : Addr} {xa xb : List (κ × Addr × Value)} {Q : Bool → Shared → Prop} (hu : knd.room A) (ha : (a == sysModules) = false) (hb : (b == sysModules) = false) (da : s.heap.DictOfH knd a xa) (db : s.heap.DictOfH knd b xb) (hl : xa.length = xb.length)
    (hits : ∀ (i : Nat) (k : κ) (p : Addr) (v : Value), xa[i]? = some (k, p, v) → ∃ (j : Nat) (p' : Addr) (v' : Value), xb[j]? = some (k, p', v') ∧ EqP prog w A s v v' true) (h : Q true s) : wpAny (model prog w) A (Builtin.Dict.samePairs nm a b) Q E s := by
  obtain ⟨oa, es, ep, hoa, _, hda, hea, hka, hna⟩ := da
  obtain ⟨ob, es', ep', hob, _, hdb, heb, hkb, hnb⟩ := db
  have hla : es.size = xa.length := size_of_entries hea
  have hlb : es'.size = xb.length := size_of_entries heb
  unfold Builtin.Dict.samePairs Builtin.Dict.showsAll
  rw [if_neg (by rw [ha]; exact Bool.false_ne_true), if_neg (by rw [hb]; exact Bool.false_ne_true)]
  refine wpAny_bind (wpAny_pure (wpAny_bind (wpAny_pure ?_)))
  refine wpAny_bind (wpAny_dictEntries hoa hda ?_)
  dsimp only
  refine wpAny_bind (wpAny_dictEntries hob hdb ?_)
  have hsz : es.size = es'.size := by omega
  rw [if_neg (by rw [hsz]; simp)]
  refine wpAny_bind (wpAny_dictEpoch hoa hda ?_)
  refine wpAny_bind ?_
  rw [Std.Legacy.Range.forIn_eq_forIn_range']
  simp only [Std.Legacy.Range.size, Nat.sub_zero, Nat.add_sub_cancel, Nat.div_one]
  refine wpAny_forIn_list _ (fun rest q z => z = s ∧ q = (none, ()) ∧ ∃ i, rest = List.range' i (es.size - i) ∧ i ≤ es.size) _ ?_ ?_ _ _ ⟨rfl, rfl, 0, by simp, Nat.zero_le _⟩
  · rintro x rest q z ⟨rfl, rfl, i, hr, hi⟩
    have hlt : i < es.size := by
      rcases Nat.lt_or_ge i es.size with g | g
      · exact g
      · rw [Nat.sub_eq_zero_of_le g] at hr; simp at hr
    obtain ⟨rfl, hrest⟩ : x = i ∧ rest = List.range' (i + 1) (es.size - (i + 1)) := by
      have e : es.size - i = (es.size - (i + 1)) + 1 := by omega
      rw [e, List.range'_succ] at hr
      injection hr with g1 g2
      exact ⟨g1, g2⟩
    refine wpAny_bind (wpAny_dictEntries hoa hda ?_)
    rw [Array.getElem?_eq_getElem hlt]
    have hlt' : x < xa.length := by omega
    obtain ⟨k, p, v, hkv⟩ : ∃ k p v, xa[x]? = some (k, p, v) := ⟨_, _, _, List.getElem?_eq_getElem hlt'⟩
    have een : es[x] = entryOfKey knd (k, p, v) := by
      have g := entry_at hea x
      rw [hkv, Array.getElem?_eq_getElem hlt] at g
      exact Option.some.inj g
    have hkey : knd.is z.heap k p := hka _ (List.mem_of_getElem? hkv)
    show wpAny _ _ (holding [es[x].key, es[x].val] _ >>= _) _ _ _
    rw [een]
    obtain ⟨j, p', v', hj, hE⟩ := hits x k p v hkv
    refine wpAny_bind (wpAny_holding (wpAny_bind (wpAny_dictFind_heap hu hkey hob hdb heb hkb hnb (fun hn => absurd hj (hn j (p', v'))) fun j2 pp hj2 => ?_)))
    have ej : j = j2 := idxH_unique hnb hj hj2
    subst ej
    have epp : (p', v') = pp := by rw [hj] at hj2; exact (Prod.mk.inj (Option.some.inj hj2)).2
    subst epp
    refine wpAny_bind (wpAny_dictEntries hob hdb ?_)
    have e2 : es'[j]? = some (entryOfKey knd (k, p', v')) := by rw [entry_at heb j, hj]; rfl
    rw [e2]
    refine wpAny_holding (hE _ _ ?_)
    show wpAny _ _ (if (!true) = true then _ else _) _ _ _
    rw [if_neg (by decide)]
    refine wpAny_bind (wpAny_dictEpoch hoa hda ?_)
    rw [if_neg (by simp)]
    exact wpAny_pure ⟨rfl, rfl, x + 1, hrest, hlt⟩
  · rintro q z ⟨rfl, rfl, i, hr, hi⟩
    exact wpAny_pure h
theorem eqT {a b : Addr} {xa xb : List (κ × Addr × Value)} {Q : Value → Shared → Prop} (hr : knd.room A.in1) (ha : (a == sysModules) = false) (hb : (b == sysModules) = false) (da : s.heap.DictOfH knd a xa) (db : s.heap.DictOfH knd b xb) (hu : A.units < cLine) (hl : xa.length = xb.length)
    (hits : ∀ (i : Nat) (k : κ) (p : Addr) (v : Value), xa[i]? = some (k, p, v) → ∃ (j : Nat) (p' : Addr) (v' : Value), xb[j]? = some (k, p', v') ∧ EqP prog w A.in1 s v v' true) (h : Q (.bool true) s) : wpAny (model prog w) A (compareOp .Eq (.ref a) (.ref b)) Q E s := by
  refine wpAny_richCompare_same_room (op := .Eq) da.typeIs db.typeIs PySem.F.slot_dict_eq (wpAny_call_entry PySem.F.slot_dict_eq da.typeIs PySem.F.entry_dict_eq ?_ (PySem.F.args_dict_eq_2 _ _)) hu
  show wpAny _ _ (Builtin.Dict.dictSlotArgs "__eq__" ⟨[.ref a, .ref b], []⟩ >>= _) _ _ s
  refine wpAny_bind ?_
  unfold Builtin.Dict.dictSlotArgs
  refine wpAny_bind (wpAny_notOrdered_dict da.typeIs ?_)
  show wpAny _ _ (pure (Value.ref a, Value.ref b)) _ _ s
  refine wpAny_pure ?_
  refine wpAny_bind (wpAny_isInstance (T := "dict") db.typeIs PySem.F.sub_dict_dict ?_)
  simp only [Bool.not_true, Bool.false_eq_true, if_false]
  refine wpAny_bind (wpAny_pure (wpAny_bind (wpAny_pure ?_)))
  exact wpAny_bind (pairsT hr ha hb da db hl hits (wpAny_pure ⟨_, rfl, (fun x => nomatch x), h⟩))
theorem neT {a b : Addr} {xa xb : List (κ × Addr × Value)} {Q : Value → Shared → Prop} (hr : knd.room A.in1) (ha : (a == sysModules) = false) (hb : (b == sysModules) = false) (da : s.heap.DictOfH knd a xa) (db : s.heap.DictOfH knd b xb) (hu : A.units < cLine) (hl : xa.length = xb.length)
    (hits : ∀ (i : Nat) (k : κ) (p : Addr) (v : Value), xa[i]? = some (k, p, v) → ∃ (j : Nat) (p' : Addr) (v' : Value), xb[j]? = some (k, p', v') ∧ EqP prog w A.in1 s v v' true) (h : Q (.bool false) s) : wpAny (model prog w) A (compareOp .NotEq (.ref a) (.ref b)) Q E s := by
  refine wpAny_richCompare_same_room (op := .NotEq) da.typeIs db.typeIs PySem.F.slot_dict_ne (wpAny_call_entry PySem.F.slot_dict_ne da.typeIs PySem.F.entry_dict_ne ?_ (PySem.F.args_dict_ne_2 _ _)) hu
  show wpAny _ _ (Builtin.Dict.dictSlotArgs "__ne__" ⟨[.ref a, .ref b], []⟩ >>= _) _ _ s
  refine wpAny_bind ?_
  unfold Builtin.Dict.dictSlotArgs
  refine wpAny_bind (wpAny_notOrdered_dict da.typeIs ?_)
  show wpAny _ _ (pure (Value.ref a, Value.ref b)) _ _ s
  refine wpAny_pure ?_
  refine wpAny_bind (wpAny_isInstance (T := "dict") db.typeIs PySem.F.sub_dict_dict ?_)
  simp only [Bool.not_true, Bool.false_eq_true, if_false]
  refine wpAny_bind (wpAny_pure (wpAny_bind (wpAny_pure ?_)))
  exact wpAny_bind (pairsT hr ha hb da db hl hits (wpAny_pure ⟨_, rfl, (fun x => nomatch x), h⟩))
end
/-- the two dicts hold the same -/
structure SameD (ks : List DK) (xs : List AV) (ks' : List DK) (xs' : List AV) : Prop where
  one : ks ≠ [] ∧ ∀ k ∈ ks, ∃ q, k = .t q
  two : ks' ≠ [] ∧ ∀ k ∈ ks', ∃ q, k = .t q
  len : ks.length = ks'.length
  at_ : ∀ (i : Nat) (k : DK) (x : AV), ks[i]? = some k → xs[i]? = some x → ∃ (j : Nat) (y : AV), ks'[j]? = some k ∧ xs'[j]? = some y ∧ (okD x = true ∧ okD y = true) ∧ (dat x).depth ≤ 900 ∧ eqD x y = true
def rSameT (neg : Bool) : R2A := fun x y S Q => ∃ ks xs ks' xs', x = .fd ks xs ∧ y = .fd ks' xs' ∧ SameD ks xs ks' xs' ∧ Q (.bl (neg ^^ true)) S
/-- a dict with tuple keys, as it lies -/
theorem fdT_of {K : PySem.W.Frag} {H : Hp} {m : MM} {ks : List DK} {xs : List AV} {v : V} (h : RepV K H m (.fd ks xs) v) (hk : ks ≠ [] ∧ ∀ k ∈ ks, ∃ q, k = .t q) : ∃ d kvs, v = .ref d ∧ Rd H d (.dT kvs) ∧ ks = kvs.map (fun p => DK.t p.1) ∧ RepVs K H m xs (kvs.map (·.2)) := by
  obtain ⟨d, o, rfl, hp, hz, hd⟩ := h
  obtain ⟨hcd, hr⟩ := fd_pin (K := K) hp
  rcases hd with ⟨kvs, rfl, e2, h4⟩ | ⟨kvs, ⟨rfl, hn⟩, e2, h4⟩
  · exfalso
    cases kvs with
    | nil => exact hk.1 e2
    | cons z zs =>
      obtain ⟨q, hq⟩ := hk.2 (.k z.1) (by rw [e2]; exact List.mem_cons_self)
      cases hq
  · exact ⟨d, kvs, rfl, hr, e2, h4⟩
section
variable {X : Cx} {pins : List (Addr × Obj)} {σ : L2.St} {H : Hp} {s : Shared} {m : MM}
theorem hits_of (hu : X.A.units + maxDep < cLine) (I : Inv X pins σ H s) {ks ks' : List DK} {xs xs' : List AV} {kvs kvs' : List (List Key × V)} {xa xb : List (List Key × Addr × Value)} (sm : SameD ks xs ks' xs') (e : ks = kvs.map fun p => DK.t p.1) (e' : ks' = kvs'.map fun p => DK.t p.1)
    (r : RepVs X.K H m xs (kvs.map (·.2))) (r' : RepVs X.K H m xs' (kvs'.map (·.2))) (t : L2.KT H kvs xa) (t' : L2.KT H kvs' xb) (i : Nat) (k : List Key) (p : Addr) (v : Value) (hi : xa[i]? = some (k, p, v)) :
    ∃ (j : Nat) (p' : Addr) (v' : Value), xb[j]? = some (k, p', v') ∧ EqP X.prog X.w X.A.in1 s v v' true := by
  obtain ⟨y, hy, hp1, hp2, hp3⟩ := L2.DX.pget t hi
  have hk : ks[i]? = some (.t k) := by rw [e, List.getElem?_map, hy]; show some (DK.t y.1) = _; rw [hp1]
  have hlx : i < xs.length := by
    have l := r.length
    rw [List.length_map] at l
    have := (List.getElem?_eq_some_iff.mp hy).1
    omega
  obtain ⟨j, w, g1, g2, ⟨g3, g4⟩, g5, g6⟩ := sm.at_ i _ _ hk (List.getElem?_eq_getElem hlx)
  rw [e', List.getElem?_map] at g1
  obtain ⟨z, hz, hz2⟩ := Option.map_eq_some_iff.mp g1
  have hz2 : z.1 = k := DK.t.inj hz2
  obtain ⟨b, hb, q1, q2, q3⟩ := paired_get t' hz
  refine ⟨j, b.2.1, b.2.2, ?_, ?_⟩
  · rw [hb, ← hz2, q1]
  · obtain ⟨u, hu1, ru⟩ := r.get (List.getElem?_eq_getElem hlx)
    rw [List.getElem?_map, hy] at hu1
    cases hu1
    obtain ⟨u', hu2, ru'⟩ := r'.get g2
    rw [List.getElem?_map, hz] at hu2
    cases hu2
    obtain ⟨as, r1⟩ := Dp.reads I _ _ v (dp_of _ _ g3 ru) hp3
    obtain ⟨bs, r2⟩ := Dp.reads I _ _ b.2.2 (dp_of _ _ g4 ru') q3
    have he := eqAt_reads _ _ X.A.in1 s v b.2.2 as bs r1 r2 (okD_lay _ g3) (okD_lay _ g4) (by
      have : (dat xs[i]).depth ≤ 900 := g5
      show X.A.units + 1 + _ < _
      unfold maxDep at hu
      omega)
    have g6 : PyData.eqv (dat xs[i]) (dat w) = true := g6
    rw [g6] at he
    exact he.eqP
theorem op_eqT (hu : X.A.units + maxDep < cLine) : OpR X (compareOp .Eq) (lR2 X.K (rSameT false)) := by
  intro pins s σ H x y v u Q I rx ry h
  obtain ⟨m, S, ax, ay, QA, rS, hx, hy, ⟨ks, xs, ks', xs', rfl, rfl, sm, q⟩, fin⟩ := h
  obtain ⟨d, kvs, rfl, h1, e, r⟩ := fdT_of hx sm.one
  obtain ⟨d', kvs', rfl, h1', e', r'⟩ := fdT_of hy sm.two
  obtain rfl : v = Value.ref d := rx
  obtain rfl : u = Value.ref d' := ry
  obtain ⟨z, hs, xa, t, dd⟩ := dt_rd I.hok h1
  obtain ⟨z', hs', xb, t', dd'⟩ := dt_rd I.hok h1'
  have hu1 : X.A.units + 1 < cLine := by unfold maxDep at hu; omega
  refine eqT (tupleKind_room_in1 hu1) hs hs' dd dd' (by omega) ?_ (hits_of hu I sm e e' r r' t t') ⟨.bl true, H, I, rfl, fin.here (z := .bl true) rS rfl q⟩
  have l := sm.len
  rw [e, e', List.length_map, List.length_map] at l
  rw [← Paired.length t, ← Paired.length t']
  exact l
theorem op_neT (hu : X.A.units + maxDep < cLine) : OpR X (compareOp .NotEq) (lR2 X.K (rSameT true)) := by
  intro pins s σ H x y v u Q I rx ry h
  obtain ⟨m, S, ax, ay, QA, rS, hx, hy, ⟨ks, xs, ks', xs', rfl, rfl, sm, q⟩, fin⟩ := h
  obtain ⟨d, kvs, rfl, h1, e, r⟩ := fdT_of hx sm.one
  obtain ⟨d', kvs', rfl, h1', e', r'⟩ := fdT_of hy sm.two
  obtain rfl : v = Value.ref d := rx
  obtain rfl : u = Value.ref d' := ry
  obtain ⟨z, hs, xa, t, dd⟩ := dt_rd I.hok h1
  obtain ⟨z', hs', xb, t', dd'⟩ := dt_rd I.hok h1'
  have hu1 : X.A.units + 1 < cLine := by unfold maxDep at hu; omega
  refine neT (tupleKind_room_in1 hu1) hs hs' dd dd' (by omega) ?_ (hits_of hu I sm e e' r r' t t') ⟨.bl false, H, I, rfl, fin.here (z := .bl false) rS rfl q⟩
  have l := sm.len
  rw [e, e', List.length_map, List.length_map] at l
  rw [← Paired.length t, ← Paired.length t']
  exact l
end
end HA

namespace HA
open PySem PySem.Spec PyProof.Rows L2
def b_inner_terms : ATS :=
  aSeq (aIf (aB (aOp (rEqA false) (aOp rIxA (aVar 0) (aC (.int 0))) (aC (.str "name")))) (aRet (aLst false aNil)) aNext) (aSeq (aIf (aB (aOp (rEqA false) (aOp rIxA (aVar 0) (aC (.int 0))) (aC (.str "sign")))) (aRet (aCall (rListA false) (aCons (aOp rIxA (aVar 0) (aC (.int 2))) aNil))) aNext) (aRet (aComp (aIter (aOp rIxA (aVar 0) (aC (.int 2)))) (gNm 1) aYes (aTup (aCons (aC (.int 0)) (aCons (aVar 1) aNil))) [1])))

def b_size (sp_inner_terms sp_size : SpA) : ATS :=
  aRet (aOp rAddA (aC (.int 1)) (aCall rSumA (aCons (aComp (aIter (aCall sp_inner_terms (aCons (aVar 0) aNil))) (gTp (gsCons (gNm 1) (gsCons (gNm 2) gsNil))) aYes (aCall sp_size (aCons (aVar 2) aNil)) [1, 2]) aNil)))

def b_places (sp_inner_terms sp_places : SpA) : ATS :=
  aSeq (aSet 1 (aLst true (aCons (aTup aNil) aNil))) (aSeq (aFor (aEnum (aCons (aCall sp_inner_terms (aCons (aVar 0) aNil)) aNil)) (gTp (gsCons (gNm 2) (gsCons (gNm 3) gsNil))) (aDrop (aMtL rExtA (aVar 1) (aCons (aComp (aIter (aCut (aCall sp_places (aCons (aOp rIxA (aVar 3) (aC (.int 1))) aNil)))) (gNm 4) aYes (aOp rAddA (aTup (aCons (aVar 2) aNil)) (aVar 4)) [4]) aNil)))) (aRet (aVar 1)))

def b_at (sp_inner_terms : SpA) : ATS :=
  aSeq (aSet 2 (aC (.int 0))) (aSeq (aFor (aIter (aVar 1)) (gNm 3) (aSeq (aSet 4 (aCall sp_inner_terms (aCons (aVar 0) aNil))) (aSeq (aIf (aNotT (aB (aChain rLeA rLtA (aC (.int 0)) (aVar 3) (aCall rLenA (aCons (aVar 4) aNil))))) (aRet (aC .non)) aNext) (aSeq (aAsg (aOp rIxA (aVar 4) (aVar 3)) (gTp (gsCons (gNm 5) (gsCons (gNm 0) gsNil)))) (aAug 2 (rI (fun _ _ => True) fun i j => .int (i + j)) (aVar 5)))))) (aRet (aTup (aCons (aVar 2) (aCons (aVar 0) aNil)))))

def b__law_cell_at : ATS :=
  aSeq (aIf (aB (aOp rLtA (aVar 1) (aCall rLenA (aCons (aVar 0) aNil)))) (aRet (aOp rIxA (aVar 0) (aVar 1))) aNext) (aRet (aC (.int 0)))

def b__law_mix : ATS :=
  aSeq (aSet 2 (aOp rModA (aOp rMulA (aOp rAddA (aOp rModA (aVar 0) (aOp rPowA (aC (.int 10)) (aC (.int 60)))) (aC (.int 1))) (aOp rAddA (aC (.int 48271)) (aOp rMulA (aC (.int 130)) (aVar 1)))) (aC (.int 2147483647)))) (aRet (aOp rModA (aOp rMulA (aVar 2) (aVar 2)) (aC (.int 2147483629))))

def b__law_words (sp__law_mix : SpA) : ATS :=
  aSeq (aSet 2 (aC (.str "abcdefghijklmnopqrstuvwxyz"))) (aSeq (aSet 3 (aOp rAddA (aC (.int 2)) (aOp rModA (aCall sp__law_mix (aCons (aVar 0) (aCons (aC (.int 1)) aNil))) (aC (.int 7))))) (aSeq (aSet 4 (aMtS rJoinA (aC (.str "")) (aCons (aComp (aRange1 (aCons (aVar 3) aNil)) (gNm 7) aYes (aOp rIxA (aVar 2) (aOp rModA (aCall sp__law_mix (aCons (aVar 0) (aCons (aOp rAddA (aC (.int 2)) (aVar 7)) aNil))) (aC (.int 26)))) [7]) aNil))) (aSeq (aSet 5 (aOp rModA (aCall sp__law_mix (aCons (aVar 0) (aCons (aC (.int 11)) aNil))) (aVar 3))) (aSeq (aSet 6 (aOp rModA (aCall sp__law_mix (aCons (aVar 0) (aCons (aC (.int 12)) aNil))) (aC (.int 26)))) (aRet (aComp (aRange1 (aCons (aVar 1) aNil)) (gNm 7) aYes (aOp rAddA (aOp rAddA (aSl false (aVar 4) aNoPart (aPart (aVar 5))) (aOp rIxA (aVar 2) (aOp rModA (aOp rAddA (aVar 6) (aOp rMulA (aC (.int 7)) (aVar 7))) (aC (.int 26))))) (aSl false (aVar 4) (aPart (aOp rAddA (aVar 5) (aC (.int 1)))) aNoPart)) [7]))))))

def b__law_free (sp__law_mix : SpA) : ATS :=
  aSeq (aIf (aB (aOp (rEqA false) (aOp rModA (aVar 0) (aC (.int 2))) (aC (.int 0)))) (aRet (aOp rModA (aOp rFdivA (aVar 0) (aC (.int 2))) (aOp rPowA (aC (.int 10)) (aC (.int 60))))) aNext) (aRet (aCall sp__law_mix (aCons (aOp rFdivA (aVar 0) (aC (.int 2))) (aCons (aVar 1) aNil))))

def b__law_leaf : ATS :=
  aSeq (aIf (aAndT (aB (aOp rGtA (aVar 1) (aC (.int 0)))) (aB (aOp rLtA (aOp rModA (aVar 0) (aC (.int 3))) (aC (.int 2))))) (aRet (aTup (aCons (aC (.str "name")) (aCons (aOp rModA (aOp rFdivA (aVar 0) (aC (.int 3))) (aVar 1)) aNil)))) aNext) (aRet (aTup (aCons (aC (.str "sign")) (aCons (aOp rIxA (aVar 2) (aOp rModA (aOp rFdivA (aVar 0) (aC (.int 3))) (aC (.int 2)))) (aCons (aTup aNil) aNil)))))

def b__law_term (sp__law_free sp__law_leaf sp__law_term : SpA) : ATS :=
  aSeq (aIf (aOrT (aB (aOp (rEqA false) (aVar 0) (aLst false aNil))) (aB (aOp (rEqA false) (aVar 4) (aC (.int 0))))) (aRet (aTup (aCons (aCall sp__law_leaf (aCons (aCall sp__law_free (aCons (aCall rSumA (aCons (aSl false (aVar 0) aNoPart (aPart (aC (.int 1)))) aNil)) (aCons (aC (.int 0)) aNil))) (aCons (aVar 1) (aCons (aVar 2) aNil)))) (aCons (aSl false (aVar 0) (aPart (aC (.int 1))) aNoPart) aNil)))) aNext) (aSeq (aSet 5 (aCall sp__law_free (aCons (aOp rIxA (aVar 0) (aC (.int 0))) (aCons (aC (.int 1)) aNil)))) (aSeq (aSet 6 (aSl false (aVar 0) (aPart (aC (.int 1))) aNoPart)) (aSeq (aSet 7 (aOp rModA (aVar 5) (aC (.int 8)))) (aSeq (aSet 5 (aOp rFdivA (aVar 5) (aC (.int 8)))) (aSeq (aIf (aB (aOp rLtA (aVar 7) (aC (.int 2)))) (aRet (aTup (aCons (aCall sp__law_leaf (aCons (aVar 5) (aCons (aVar 1) (aCons (aVar 2) aNil)))) (aCons (aVar 6) aNil)))) aNext) (aSeq (aIf (aAndT (aB (aOp rLtA (aVar 7) (aC (.int 4)))) (aB (aOp (rEqA true) (aVar 3) (aLst false aNil)))) (aSeq (aAsg (aOp rIxA (aVar 3) (aOp rModA (aVar 5) (aCall rLenA (aCons (aVar 3) aNil)))) (gTp (gsCons (gNm 12) (gsCons (gNm 11) gsNil)))) (aSeq (aSet 10 (aLst true aNil)) (aSeq (aFor (aRange1 (aCons (aVar 11) aNil)) (gNm 9) (aSeq (aAsg (aCall sp__law_term (aCons (aVar 6) (aCons (aVar 1) (aCons (aVar 2) (aCons (aVar 3) (aCons (aOp rSubA (aVar 4) (aC (.int 1))) aNil)))))) (gTp (gsCons (gNm 13) (gsCons (gNm 6) gsNil)))) (aDrop (aMtL (rMutA fAppend) (aVar 10) (aCons (aVar 13) aNil))))) (aRet (aTup (aCons (aTup (aCons (aC (.str "hole")) (aCons (aVar 12) (aCons (aCall rTupA (aCons (aVar 10) aNil)) aNil)))) (aCons (aVar 6) aNil))))))) aNext) (aSeq (aSet 8 (aLst true aNil)) (aSeq (aFor (aRange1 (aCons (aOp rAddA (aC (.int 1)) (aOp rModA (aVar 5) (aC (.int 3)))) aNil)) (gNm 9) (aSeq (aSet 11 (aOp rIxA (aLst false (aCons (aC (.int 0)) (aCons (aC (.int 0)) (aCons (aC (.int 1)) (aCons (aC (.int 2)) aNil))))) (aOp rModA (aOp rFdivA (aVar 5) (aOp rIxA (aLst false (aCons (aC (.int 12)) (aCons (aC (.int 48)) (aCons (aC (.int 192)) aNil)))) (aVar 9))) (aC (.int 4))))) (aSeq (aAsg (aCall sp__law_term (aCons (aVar 6) (aCons (aOp rAddA (aVar 1) (aVar 11)) (aCons (aVar 2) (aCons (aVar 3) (aCons (aOp rSubA (aVar 4) (aC (.int 1))) aNil)))))) (gTp (gsCons (gNm 13) (gsCons (gNm 6) gsNil)))) (aDrop (aMtL (rMutA fAppend) (aVar 8) (aCons (aTup (aCons (aVar 11) (aCons (aVar 13) aNil))) aNil)))))) (aRet (aTup (aCons (aTup (aCons (aC (.str "sign")) (aCons (aOp rIxA (aVar 2) (aOp rAddA (aC (.int 2)) (aOp rModA (aOp rModA (aOp rFdivA (aVar 5) (aC (.int 3))) (aC (.int 4))) (aC (.int 3))))) (aCons (aCall rTupA (aCons (aVar 8) aNil)) aNil)))) (aCons (aVar 6) aNil))))))))))))

def b__law_drawn (sp__law_words sp__law_term : SpA) : ATS :=
  aSeq (aSet 3 (aCall sp__law_words (aCons (aVar 2) (aCons (aC (.int 9)) aNil)))) (aSeq (aSet 4 (aComp (aRange1 (aCons (aC (.int 4)) aNil)) (gNm 5) aYes (aTup (aCons (aOp rIxA (aVar 3) (aOp rAddA (aC (.int 5)) (aVar 5))) (aCons (aVar 5) aNil))) [5])) (aRet (aOp rIxA (aCall sp__law_term (aCons (aSl false (aVar 0) aNoPart (aPart (aC (.int 12)))) (aCons (aVar 1) (aCons (aVar 3) (aCons (aVar 4) (aCons (aC (.int 4)) aNil)))))) (aC (.int 0)))))

def b__law_grown : ATS :=
  aSeq (aSet 2 (aTup (aCons (aC (.str "sign")) (aCons (aC (.str "a")) (aCons (aTup aNil) aNil))))) (aSeq (aIf (aB (aOp (rEqA false) (aOp rModA (aVar 1) (aC (.int 3))) (aC (.int 0)))) (aSeq (aSet 3 (aOp rAddA (aOp rMulA (aLst false (aCons (aTup (aCons (aC (.int 0)) (aCons (aVar 2) aNil))) aNil)) (aOp rModA (aOp rFdivA (aVar 1) (aC (.int 3))) (aC (.int 11)))) (aLst false (aCons (aTup (aCons (aOp rModA (aOp rFdivA (aVar 1) (aC (.int 33))) (aC (.int 5))) (aCons (aVar 0) aNil))) aNil)))) (aRet (aTup (aCons (aC (.str "sign")) (aCons (aC (.str "wide")) (aCons (aCall rTupA (aCons (aVar 3) aNil)) aNil)))))) aNext) (aSeq (aIf (aB (aOp (rEqA false) (aOp rModA (aVar 1) (aC (.int 3))) (aC (.int 1)))) (aFor (aRange1 (aCons (aOp rModA (aOp rFdivA (aVar 1) (aC (.int 3))) (aC (.int 12))) aNil)) (gNm 4) (aSet 0 (aTup (aCons (aC (.str "sign")) (aCons (aC (.str "deep")) (aCons (aTup (aCons (aTup (aCons (aC (.int 0)) (aCons (aVar 0) aNil))) aNil)) aNil)))))) aNext) (aRet (aVar 0))))

def b__law_inner : ATS :=
  aSeq (aIf (aB (aOp (rEqA false) (aOp rIxA (aVar 0) (aC (.int 0))) (aC (.str "name")))) (aRet (aLst false aNil)) aNext) (aSeq (aIf (aB (aOp (rEqA false) (aOp rIxA (aVar 0) (aC (.int 0))) (aC (.str "sign")))) (aRet (aCall (rListA false) (aCons (aOp rIxA (aVar 0) (aC (.int 2))) aNil))) aNext) (aRet (aComp (aIter (aOp rIxA (aVar 0) (aC (.int 2)))) (gNm 1) aYes (aTup (aCons (aC (.int 0)) (aCons (aVar 1) aNil))) [1])))

def b__law_walked (sp__law_inner sp__law_place_first : SpA) : ATS :=
  aSeq (aSet 1 (aLst true (aCons (aTup (aCons (aTup aNil) (aCons (aC (.int 0)) (aCons (aVar 0) aNil)))) aNil))) (aSeq (aSet 2 (aLst true aNil)) (aSeq (aWhile (aB (aOp (rEqA true) (aVar 1) (aLst false aNil))) (aSeq (aAsg (aMtL (rMutA fPop) (aVar 1) aNil) (gTp (gsCons (gNm 3) (gsCons (gNm 4) (gsCons (gNm 5) gsNil))))) (aSeq (aDrop (aMtL (rMutA fAppend) (aVar 2) (aCons (aTup (aCons (aVar 3) (aCons (aVar 4) (aCons (aVar 5) aNil)))) aNil))) (aFor (aEnum (aCons (aCall sp__law_inner (aCons (aVar 5) aNil)) aNil)) (gTp (gsCons (gNm 6) (gsCons (gNm 7) gsNil))) (aDrop (aMtL (rMutA fAppend) (aVar 1) (aCons (aTup (aCons (aOp rAddA (aVar 3) (aTup (aCons (aVar 6) aNil))) (aCons (aOp rAddA (aVar 4) (aOp rIxA (aVar 7) (aC (.int 0)))) (aCons (aOp rIxA (aVar 7) (aC (.int 1))) aNil)))) aNil))))))) (aRet (aSortK sp__law_place_first (aVar 2)))))

def b__law_place_first : ATS :=
  aRet (aOp rIxA (aVar 0) (aC (.int 0)))

def b__law_number : ATS :=
  aRet (aAndV (aCall rIsiA (aCons (aVar 0) (aCons (aC (.raw (.ty "int"))) aNil))) (aNotV (aCall rIsiA (aCons (aVar 0) (aCons (aC (.raw (.ty "bool"))) aNil)))))

def b__law_right (sp_places sp__law_number sp_at sp__law_inner : SpA) : ATS :=
  aSeq (aSet 3 (aCall sp_places (aCons (aVar 0) aNil))) (aSeq (aIf (aOrT (aNotT (aB (aCall rIsiA (aCons (aVar 3) (aCons (aC (.raw (.ty "list"))) aNil))))) (aB (aOp (rEqA true) (aVar 3) (aComp (aIter (aVar 1)) (gNm 10) aYes (aOp rIxA (aVar 10) (aC (.int 0))) [10])))) (aRet (aC (.bl false))) aNext) (aSeq (aIf (aNotT (aB (aCall rAllA (aCons (aComp (aIter (aVar 3)) (gNm 4) aYes (aAndV (aCall rIsiA (aCons (aVar 4) (aCons (aC (.raw (.ty "tuple"))) aNil))) (aCall rAllA (aCons (aComp (aIter (aVar 4)) (gNm 11) aYes (aCall sp__law_number (aCons (aVar 11) aNil)) [11]) aNil))) [4]) aNil)))) (aRet (aC (.bl false))) aNext) (aSeq (aFor (aIter (aVar 1)) (gTp (gsCons (gNm 4) (gsCons (gNm 5) (gsCons (gNm 6) gsNil)))) (aSeq (aSet 7 (aCall sp_at (aCons (aVar 0) (aCons (aVar 4) aNil)))) (aSeq (aIf (aOrT (aNotT (aB (aCall rIsiA (aCons (aVar 7) (aCons (aC (.raw (.ty "tuple"))) aNil))))) (aOrT (aB (aOp (rEqA true) (aVar 7) (aTup (aCons (aVar 5) (aCons (aVar 6) aNil))))) (aNotT (aB (aCall sp__law_number (aCons (aOp rIxA (aVar 7) (aC (.int 0))) aNil)))))) (aRet (aC (.bl false))) aNext) (aSeq (aSet 8 (aCall rLenA (aCons (aCall sp__law_inner (aCons (aVar 6) aNil)) aNil))) (aFor (aIter (aLst false (aCons (aOp rAddA (aVar 4) (aTup (aCons (aOp rAddA (aVar 8) (aOp rModA (aVar 2) (aOp rPowA (aC (.int 10)) (aC (.int 20))))) aNil))) (aCons (aOp rAddA (aVar 4) (aTup (aCons (aOp rSubA (aUn rNegA (aC (.int 1))) (aOp rModA (aVar 2) (aC (.int 4)))) aNil))) (aCons (aOp rAddA (aVar 4) (aTup (aCons (aVar 8) (aCons (aC (.int 0)) aNil)))) (aCons (aOp rAddA (aTup (aCons (aUn rNegA (aC (.int 1))) aNil)) (aVar 4)) aNil)))))) (gNm 9) (aIf (aB (aOp (rIsA true) (aCall sp_at (aCons (aVar 0) (aCons (aVar 9) aNil))) (aC .non))) (aRet (aC (.bl false))) aNext)))))) (aSeq (aDrop (aMtL (rMutA fAppend) (aVar 3) (aCons (aTup (aCons (aC (.int 9)) aNil)) aNil))) (aSeq (aSetIx (aTup (aCons (aC (.int 8)) aNil)) (aVar 3) (aC (.int 0)) rSetLA) (aRet (aOp (rEqA false) (aCut (aCall sp_places (aCons (aVar 0) aNil))) (aComp (aIter (aVar 1)) (gNm 10) aYes (aOp rIxA (aVar 10) (aC (.int 0))) [10]))))))))

def b_law (sp__law_cell_at sp__law_mix sp__law_drawn sp__law_grown sp__law_walked sp_size sp__law_number sp__law_right : SpA) : ATS :=
  aSeq (aFor (aRange3 (aCons (aC (.int 0)) (aCons (aCall rMaxA (aCons (aC (.int 1)) (aCons (aCall rMinA (aCons (aCall rLenA (aCons (aVar 0) aNil)) (aCons (aC (.int 63)) aNil))) aNil))) (aCons (aC (.int 6)) aNil)))) (gNm 1) (aSeq (aSet 2 (aCall sp__law_cell_at (aCons (aVar 0) (aCons (aVar 1) aNil)))) (aSeq (aSet 3 (aCall sp__law_grown (aCons (aCall sp__law_drawn (aCons (aSl false (aVar 0) (aPart (aVar 1)) aNoPart) (aCons (aOp rModA (aCall sp__law_mix (aCons (aVar 2) (aCons (aC (.int 40)) aNil))) (aC (.int 4))) (aCons (aVar 2) aNil)))) (aCons (aCall sp__law_mix (aCons (aVar 2) (aCons (aC (.int 48)) aNil))) aNil)))) (aSeq (aSet 4 (aCall sp__law_walked (aCons (aVar 3) aNil))) (aSeq (aSet 5 (aCall sp_size (aCons (aVar 3) aNil))) (aIf (aOrT (aNotT (aB (aCall sp__law_number (aCons (aVar 5) aNil)))) (aOrT (aB (aOp (rEqA true) (aVar 5) (aCall rLenA (aCons (aVar 4) aNil)))) (aNotT (aB (aCall sp__law_right (aCons (aVar 3) (aCons (aVar 4) (aCons (aVar 2) aNil)))))))) (aRet (aC (.bl false))) aNext)))))) (aRet (aC (.bl true)))

end HA

/-! What inner_terms, size, places, at promise. -/
namespace HA
open PySem PySem.Spec PyProof.Rows L2 PySem.W
def sp_inner : SpA := fun xs S Q => ∃ t, xs = [enc t] ∧ Q (.fl (encPs (inn t))) S
theorem wp_inner (xs : List AV) (S : Sto) (Q : AQ) (h : sp_inner xs S Q) : b_inner_terms { nx := fun _ S' => retQ S Q .non S', rt := retQ S Q } (startA 2 xs) S := by
  obtain ⟨t, rfl, h⟩ := h
  cases t with
  | name k => exact ⟨Nat.zero_le _, .inl h⟩
  | sign w ps => exact .inl h
  | hole w ts =>
    refine compA_map (l := ts) (e := enc) (r := fun t => .tup [.int 0, enc t]) (encs_map ts) trivial (fun t _ Q' q => ⟨by show 2 ≤ sizeLine; decide, q⟩) (.inl ?_)
    rw [inn_hole] at h
    exact h
def sp_sz (n : Nat) : SpA := fun xs S Q => ∃ t, xs = [enc t] ∧ depT t ≤ n ∧ Q (.int (sizeT t)) S
theorem cast_sum : ∀ l : List Nat, ((l.sum : Nat) : Int) = (l.map fun n : Nat => (n : Int)).sum
  | [] => rfl
  | n :: l => by rw [List.sum_cons, List.map_cons, List.sum_cons, ← cast_sum l]; simp
theorem wp_size (n : Nat) (xs : List AV) (S : Sto) (Q : AQ) (h : sp_sz (n + 1) xs S Q) : b_size sp_inner (sp_sz n) { nx := fun _ S' => retQ S Q .non S', rt := retQ S Q } (startA 3 xs) S := by
  obtain ⟨t, rfl, hd, h⟩ := h
  refine ⟨t, rfl, ?_⟩
  refine compA_map (l := inn t) (e := encP) (r := fun p => .int (sizeT p.2)) (encPs_map _) trivial (fun p hp Q' q => ⟨p.2, rfl, by have := depT_lt hp; omega, q⟩) ?_
  have e : ints? ([] ++ (inn t).map fun p => AV.int (sizeT p.2)) = some ((inn t).map fun p => ((sizeT p.2 : Nat) : Int)) := by
    rw [List.nil_append]
    have := ints_map ((inn t).map fun p => ((sizeT p.2 : Nat) : Int))
    rw [List.map_map] at this
    exact this
  have e2 : (1 + ((inn t).map fun p => ((sizeT p.2 : Nat) : Int)).sum) = ((sizeT t : Nat) : Int) := by
    rw [sizeT_eq, Int.natCast_add, cast_sum, List.map_map]
    rfl
  have key : rSumA [.fl ([] ++ (inn t).map fun p => AV.int (sizeT p.2))] S (fun y S2 => rAddA (.int 1) y S2 (retQ S Q)) := rList1_i rfl e (.inl (by rw [e2]; exact h))
  exact key
def sp_pl (n : Nat) : SpA := fun xs S Q => ∃ t, xs = [enc t] ∧ depT t ≤ n ∧ depT t ≤ 1000 ∧ sizeT t ≤ 1000000 ∧ Q (.ref S.length) (S ++ [.lst ((placesT t).map encPl)])
theorem places_map (t : Tm) : enumA (encPs (inn t)) = (inn t).zipIdx.map fun p => AV.tup [.int (p.2 : Nat), encP p.1] := by
  unfold enumA
  rw [encPs_map, List.zipIdx_map, List.map_map]
  rfl
theorem wp_places (n : Nat) (xs : List AV) (S : Sto) (Q : AQ) (h : sp_pl (n + 1) xs S Q) : b_places sp_inner (sp_pl n) { nx := fun _ S' => retQ S Q .non S', rt := retQ S Q } (startA 5 xs) S := by
  obtain ⟨t, rfl, hd, hd2, hz, h⟩ := h
  refine ⟨Nat.zero_le _, by show 1 ≤ sizeLine; decide, t, rfl, ?_⟩
  refine forA_inv (l := (inn t).zipIdx) (done := []) (fun d ρ S' => ∃ a b c, ρ = [some (enc t), some (.ref S.length), a, b, c] ∧ S' = S ++ [.lst ((([], 0, t) :: rowsAt 0 (d.map (·.1))).map fun r => encPl r.1)]) (fun _ _ _ _ => trivial) (places_map t) ⟨none, none, none, rfl, rfl⟩ ?_ ?_
  · rintro d ⟨p, i⟩ r ρ S' hl ⟨a, b, c, rfl, rfl⟩ nx hnx
    obtain ⟨hi, hm⟩ := zip_at (show (inn t).zipIdx = _ from hl)
    dsimp only at hi
    have hp : p ∈ inn t := by rw [← hm]; simp
    have sz : (rowsAt 0 (d.map (·.1))).length + (rowsT p.2).length ≤ sizeT t := by
      have e1 := rows_len t
      rw [rowsT_eq, ← hm, List.length_cons] at e1
      have e2 : d.map (·.1) ++ p :: r.map (·.1) = (d.map (·.1) ++ [p]) ++ r.map (·.1) := by simp
      rw [e2, rowsAt_len' _ _ fun q _ => rows_len q.2, List.map_append, List.sum_append, ← rowsAt_len' _ 0 fun q _ => rows_len q.2, rowsAt_snoc, List.length_append] at e1
      unfold under at e1
      rw [List.length_map] at e1
      omega
    show aMtL rExtA (aVar 1) _ [some (enc t), some (.ref S.length), some (.int i), some (encP p), c] _ _
    refine mtVar_i (x := .ref S.length) rfl (asL_ref (sto_new _ _)) ?_
    refine ⟨p.2, rfl, by have := depT_lt hp; omega, by have := depT_lt hp; omega, by have := sizeT_lt hp; omega, ?_⟩
    refine ret_cut rfl (.lst (Nat.le_refl _) (sto_new _ _) (frzs_same fun x hx => ?_)) ?_
    · obtain ⟨q, _, rfl⟩ := List.mem_map.mp hx
      exact noRef_ok _ (okD_pl q)
    · refine compA_map (l := placesT p.2) (e := encPl) (r := fun q => encPl ((i : Int) :: q)) rfl trivial (fun q hq Q' k => ⟨by show 1 ≤ sizeLine; decide, ?_, k⟩) ?_
      · obtain ⟨w, hw, rfl⟩ := List.mem_map.mp hq
        have := row_len p.2 w hw
        have := depT_lt hp
        show 1 + (w.1.map AV.int).length ≤ sizeLine
        rw [List.length_map]
        have : sizeLine = 2 ^ 24 := rfl
        omega
      · dsimp only [aNil]
        refine rExt_i (sto_new _ _) rfl ?_ ?_
        · rw [List.length_map, List.length_cons, List.nil_append, List.length_map, List.length_map]
          have : sizeLine = 2 ^ 24 := rfl
          omega
        · refine hnx _ _ ⟨some (.int i), some (encP p), c, rfl, ?_⟩
          rw [snoc_set, List.nil_append]
          have e1 : (d ++ [(p, i)]).map (fun x => x.1) = d.map (fun x => x.1) ++ [p] := by rw [List.map_append]; rfl
          rw [e1, rowsAt_snoc, List.length_map, Nat.zero_add, ← hi, ← List.cons_append, List.map_append]
          unfold under
          rw [List.map_map, List.map_map]
          rfl
  · rintro ρ S' ⟨a, b, c, rfl, rfl⟩
    refine .inl ?_
    rw [List.nil_append, List.zipIdx_map_fst, ← rowsT_eq]
    rw [List.map_map] at h
    exact h
def encAt : Option (Nat × Tm) → AV
  | none => .non
  | some (b, x) => .tup [.int b, enc x]
def sp_at : SpA := fun xs S Q => ∃ t p, xs = [enc t, encPl p] ∧ Q (encAt (atT t p)) S
def shiftAt (b : Nat) : Option (Nat × Tm) → Option (Nat × Tm)
  | none => none
  | some (c, x) => some (b + c, x)
def atB2 : ATS := aSeq (aIf (aNotT (aB (aChain rLeA rLtA (aC (.int 0)) (aVar 3) (aCall rLenA (aCons (aVar 4) aNil))))) (aRet (aC .non)) aNext) (aSeq (aAsg (aOp rIxA (aVar 4) (aVar 3)) (gTp (gsCons (gNm 5) (gsCons (gNm 0) gsNil)))) (aAug 2 (rI (fun _ _ => True) fun i j => .int (i + j)) (aVar 5)))
def atB : ATS := aSeq (aSet 4 (aCall sp_inner (aCons (aVar 0) aNil))) atB2
theorem chain_i {i : Nat} {k n : Int} {tc : ATE} {ρ : AEnv} {S : Sto} {Q : AQ} (hr : ρ[i]? = some (some (.int k))) (hc : 0 ≤ k → tc ρ S fun w S4 => rLtA (.int k) w S4 Q) (h0 : k < 0 → Q (.bl false) S) : aChain rLeA rLtA (aC (.int 0)) (aVar i) tc ρ S Q := by
  unfold aChain aC aVar
  dsimp only
  rw [hr]
  refine ⟨trivial, ?_⟩
  dsimp only
  by_cases h : 0 ≤ k
  · rw [decide_eq_true h]
    exact hc h
  · rw [decide_eq_false h]
    exact h0 (by omega)
theorem at_test {t : Tm} {k : Int} {D : AEnds} {x0 x1 x2 x5 : Option AV} {S : Sto} (h1 : ∀ n : Nat, k = n → n < (inn t).length → aSeq (aAsg (aOp rIxA (aVar 4) (aVar 3)) (gTp (gsCons (gNm 5) (gsCons (gNm 0) gsNil)))) (aAug 2 (rI (fun _ _ => True) fun i j => .int (i + j)) (aVar 5)) D [x0, x1, x2, some (.int k), some (.fl (encPs (inn t))), x5] S)
    (h2 : (k < 0 ∨ ((inn t).length : Int) ≤ k) → D.rt .non S) : atB2 D [x0, x1, x2, some (.int k), some (.fl (encPs (inn t))), x5] S := by
  show aChain rLeA rLtA (aC (.int 0)) (aVar 3) (aCall rLenA (aCons (aVar 4) aNil)) [x0, x1, x2, some (.int k), some (.fl (encPs (inn t))), x5] S _
  refine chain_i (k := k) (n := 0) rfl (fun h => ?_) fun h => h2 (.inl h)
  refine ⟨trivial, ?_⟩
  have e : (encPs (inn t)).length = (inn t).length := by rw [encPs_map, List.length_map]
  dsimp only
  rw [e]
  by_cases hl : k < ((inn t).length : Int)
  · rw [decide_eq_true hl]
    exact h1 k.toNat (by omega) (by omega)
  · rw [decide_eq_false hl]
    exact h2 (.inr (by omega))
theorem at_loop {GA : Sto → Prop} (hG : ∀ S, GA S) {S : Sto} {x1 : Option AV} {D : AEnds} : ∀ (p : Pl) (t : Tm) (b : Nat) (x3 x4 x5 : Option AV), (D.rt .non S) ∨ atT t p ≠ none → (∀ c x y3 y4 y5, atT t p = some (c, x) → D.nx [some (enc x), x1, some (.int ((b + c : Nat) : Int)), y3, y4, y5] S) →
    forA GA (gNm 3) atB (p.map AV.int) D [some (enc t), x1, some (.int (b : Int)), x3, x4, x5] S
  | [], t, b, x3, x4, x5, _, q => ⟨hG _, q 0 t x3 x4 x5 rfl⟩
  | k :: p, t, b, x3, x4, x5, hr, q => by
    refine ⟨hG _, t, rfl, ?_⟩
    refine at_test (t := t) (fun n hk hn => ?_) fun hb => ?_
    · subst hk
      obtain ⟨m, u, hmu⟩ : ∃ m u, (inn t)[n]? = some (m, u) := ⟨_, _, List.getElem?_eq_getElem hn⟩
      have ea : atT t ((n : Int) :: p) = shiftAt m (atT u p) := by
        rw [atT, show atT.ixP (inn t) (n : Int) = some (m, u) from hmu]
        dsimp only
        cases atT u p <;> rfl
      have ih := at_loop hG (x1 := x1) (D := D) p u (b + m) (some (.int n)) (some (.fl (encPs (inn t)))) (some (.int m)) (hr.imp id fun h z => h (by rw [ea, z]; rfl)) fun c x y3 y4 y5 e => by
        have := q (m + c) x y3 y4 y5 (by rw [ea, e]; rfl)
        rw [← Nat.add_assoc] at this
        exact this
      dsimp only [aSeq, aAsg]
      refine ixVV_i (x := .fl (encPs (inn t))) (y := encP (m, u)) rfl rfl rfl (show (encPs (inn t))[n]? = _ by rw [encPs_map, List.getElem?_map, hmu]; rfl) ?_
      refine ⟨trivial, ?_⟩
      rw [Int.natCast_add] at ih
      exact ih
    · rcases hr with h | h
      · exact h
      · exact absurd (atT_beyond hb) h
theorem wp_at (xs : List AV) (S : Sto) (Q : AQ) (h : sp_at xs S Q) : b_at sp_inner { nx := fun _ S' => retQ S Q .non S', rt := retQ S Q } (startA 6 xs) S := by
  obtain ⟨t, p, rfl, h⟩ := h
  refine at_loop (fun _ => trivial) p t 0 none none none ?_ fun c x y3 y4 y5 e => ?_
  · by_cases z : atT t p = none
    · rw [z] at h
      exact .inl (.inl h)
    · exact .inr z
  · rw [e] at h
    rw [Nat.zero_add]
    exact ⟨by show 2 ≤ sizeLine; decide, .inl h⟩
end HA

/-! What the law's own helpers promise: numbers, words, terms. -/
namespace HA
open PySem PySem.Spec PyProof.Rows L2 PySem.W
abbrev D0 (S : Sto) (Q : AQ) : AEnds := { nx := fun _ S' => retQ S Q .non S', rt := retQ S Q }
def sp_cell : SpA := fun xs S Q => ∃ (ns : List Int) (k : Int), xs = [.sl (ns.map AV.int), .int k] ∧ 0 ≤ k ∧ ∀ r, Q (.int r) S
theorem wp_cell (xs : List AV) (S : Sto) (Q : AQ) (h : sp_cell xs S Q) : b__law_cell_at (D0 S Q) (startA 2 xs) S := by
  obtain ⟨ns, k, rfl, h0, h⟩ := h
  refine ⟨trivial, ?_⟩
  dsimp only
  by_cases hl : k < ((ns.map AV.int).length : Int)
  · rw [decide_eq_true hl]
    obtain ⟨n, rfl⟩ : ∃ n : Nat, k = n := ⟨k.toNat, by omega⟩
    have hn : n < ns.length := by rw [List.length_map] at hl; omega
    refine ixVV_i (x := .sl (ns.map AV.int)) (y := .int ns[n]) rfl rfl rfl (show (ns.map AV.int)[n]? = _ by rw [List.getElem?_map, List.getElem?_eq_getElem hn]; rfl) (.inl (h _))
  · rw [decide_eq_false hl]
    exact .inl (h _)
def sp_mix : SpA := fun xs S Q => ∃ a b : Int, xs = [.int a, .int b] ∧ 0 ≤ b ∧ b ≤ 1000 ∧ ∀ r : Int, 0 ≤ r → r < 2147483629 → Q (.int r) S
theorem fmod_in {a m : Int} (h : 0 < m) : 0 ≤ a.fmod m ∧ a.fmod m < m := ⟨Int.fmod_nonneg_of_pos a h, Int.fmod_lt_of_pos a h⟩
theorem p60 : (10 : Int) ^ (60 : Int).toNat ≠ 0 := by decide
theorem wp_mix (xs : List AV) (S : Sto) (Q : AQ) (h : sp_mix xs S Q) : b__law_mix (D0 S Q) (startA 3 xs) S := by
  obtain ⟨a, b, rfl, h0, h1, h⟩ := h
  have c1 := fmod_in (a := (a.fmod (10 ^ (60 : Int).toNat) + 1) * (48271 + 130 * b)) (m := 2147483647) (by decide)
  have c2 := fmod_in (a := ((a.fmod (10 ^ (60 : Int).toNat) + 1) * (48271 + 130 * b)).fmod 2147483647 * ((a.fmod (10 ^ (60 : Int).toNat) + 1) * (48271 + 130 * b)).fmod 2147483647) (m := 2147483629) (by decide)
  exact ⟨⟨by decide, by decide, by decide⟩, p60, .inl ⟨by decide, by decide⟩, .inr ⟨by omega, by omega⟩, (by decide : (2147483647 : Int) ≠ 0), .inl ⟨by omega, by omega⟩, (by decide : (2147483629 : Int) ≠ 0), .inl (h _ c2.1 c2.2)⟩
/-! ### words -/
abbrev W (n : Nat) (w : Str) : Prop := w.length ≤ n ∧ ∀ c ∈ w.cps.toList, c < 0x110000
theorem W.ok {n : Nat} {w : Str} (h : W n w) : okW w := by
  show w.cps.all _ = true
  rw [Array.all_eq_true_iff_forall_mem]
  intro c hc
  exact decide_eq_true (h.2 c (Array.mem_toList_iff.mpr hc))
theorem W.mono {m n : Nat} {w : Str} (h : W m w) (l : m ≤ n) : W n w := ⟨Nat.le_trans h.1 l, h.2⟩
theorem W.app {m n : Nat} {x y : Str} (h : W m x) (k : W n y) : W (m + n) (x ++ y) := by
  refine ⟨?_, fun c hc => ?_⟩
  · rw [Str.length_append]
    exact Nat.add_le_add h.1 k.1
  · have e : (x ++ y).cps.toList = x.cps.toList ++ y.cps.toList := by
      show (x.cps ++ y.cps).toList = _
      exact Array.toList_append
    rw [e] at hc
    exact (List.mem_append.mp hc).elim (h.2 c) (k.2 c)
theorem W.one {c : Nat} (h : c < 0x110000) : W 1 ⟨#[c]⟩ := ⟨Nat.le_refl _, fun d hd => by
  have : d = c := by simpa using hd
  omega⟩
theorem W.cut {n : Nat} {z : Str} {lo hi : Option Int} (h : W n z) : W n (cutSA z lo hi) := by
  have sub : ∀ c ∈ (cutSA z lo hi).cps.toList, c ∈ z.cps.toList := fun c hc => by
    have hc : c ∈ (cutA z.cps.toList lo hi).toArray.toList := hc
    rw [List.toList_toArray] at hc
    exact List.mem_of_mem_drop (List.mem_of_mem_take hc)
  refine ⟨?_, fun c hc => h.2 c (sub c hc)⟩
  have e : (cutSA z lo hi).length = (cutA z.cps.toList lo hi).length := by
    show (cutA z.cps.toList lo hi).toArray.size = _
    rw [List.size_toArray]
  rw [e]
  unfold cutA
  rw [List.length_take, List.length_drop, Array.length_toList]
  have : z.cps.size ≤ n := h.1
  omega
theorem W.join : ∀ {zs : List Str}, (∀ z ∈ zs, W 1 z) → W zs.length (Str.join "" zs)
  | [], _ => ⟨Nat.le_refl _, fun c hc => by simp [Str.join, Str.empty] at hc⟩
  | [x], h => h x List.mem_cons_self
  | x :: y :: r, h => by
    have a := h x List.mem_cons_self
    have b := W.join (zs := y :: r) fun z hz => h z (List.mem_cons_of_mem _ hz)
    have e0 : W 0 ("" : Str) := ⟨by decide +kernel, fun c hc => by
      have e : ("" : Str).cps.toList = [] := by decide +kernel
      rw [e] at hc
      cases hc⟩
    show W _ (x ++ "" ++ Str.join "" (y :: r))
    exact ((a.app e0).app b).mono (by simp only [List.length_cons]; omega)
theorem abc_len : ("abcdefghijklmnopqrstuvwxyz" : Str).cps.toList.length = 26 := by decide +kernel
theorem abc_ok : ∀ c ∈ ("abcdefghijklmnopqrstuvwxyz" : Str).cps.toList, c < 0x110000 := by decide +kernel
theorem abc_ix {i : Int} (h0 : 0 ≤ i) (h1 : i < 26) {S : Sto} {Q : AQ} (q : ∀ w, W 1 w → Q (.str w) S) : rIxA (.str "abcdefghijklmnopqrstuvwxyz") (.int i) S Q := by
  obtain ⟨n, rfl⟩ : ∃ n : Nat, i = n := ⟨i.toNat, by omega⟩
  have hn : n < ("abcdefghijklmnopqrstuvwxyz" : Str).cps.toList.length := by rw [abc_len]; omega
  refine rIxA_str (c := ("abcdefghijklmnopqrstuvwxyz" : Str).cps.toList[n]) (by decide +kernel) (List.getElem?_eq_getElem hn) (q _ (W.one (abc_ok _ (List.getElem_mem hn))))
/-- each item gives some value of a kind -/
theorem compA_some {α : Type} {P : AV → Prop} {GA : Sto → Prop} {g : ATG} {tt : ATT} {te : ATE} {ρw : AEnv} {e : α → AV} : ∀ {l : List α} {xs acc : List AV} {S : Sto} {Q : List AV → Sto → Prop}, xs = l.map e → GA S → (∀ a ∈ l, ∀ Q' : Option AV → Sto → Prop, (∀ y, P y → Q' (some y) S) → compStep g tt te ρw (e a) S Q') →
    (∀ ys : List AV, ys.length = l.length → (∀ y ∈ ys, P y) → Q (acc ++ ys) S) → compA GA g tt te ρw xs acc S Q
  | [], _, acc, S, Q, rfl, hg, _, q => ⟨hg, by simpa using q [] rfl (fun _ h => nomatch h)⟩
  | a :: l, _, acc, S, Q, rfl, hg, h, q => by
    refine compA_cons hg (h a List.mem_cons_self _ fun y hy => ?_)
    refine compA_some (l := l) rfl hg (fun b hb => h b (List.mem_cons_of_mem _ hb)) fun ys hl hp => ?_
    have := q (y :: ys) (by rw [List.length_cons, hl, List.length_cons]) (fun z hz => by
      rcases List.mem_cons.mp hz with rfl | hz
      · exact hy
      · exact hp z hz)
    rw [List.append_assoc]
    exact this
theorem as_map {α : Type} {f : α → AV} {P : α → Prop} : ∀ {ys : List AV}, (∀ y ∈ ys, ∃ a, y = f a ∧ P a) → ∃ zs : List α, ys = zs.map f ∧ ∀ z ∈ zs, P z
  | [], _ => ⟨[], rfl, fun _ h => nomatch h⟩
  | y :: ys, h => by
    obtain ⟨a, rfl, ha⟩ := h y List.mem_cons_self
    obtain ⟨zs, rfl, hz⟩ := as_map fun z hz => h z (List.mem_cons_of_mem _ hz)
    exact ⟨a :: zs, rfl, fun z hz' => by
      rcases List.mem_cons.mp hz' with rfl | hz'
      · exact ha
      · exact hz z hz'⟩
def sp_words : SpA := fun xs S Q => ∃ a m : Int, xs = [.int a, .int m] ∧ 0 ≤ m ∧ m ≤ 100 ∧ ∀ ws : List Str, (ws.length : Int) = m → (∀ w ∈ ws, W 20 w) → Q (.fl (ws.map AV.str)) S
theorem wp_words (xs : List AV) (S : Sto) (Q : AQ) (h : sp_words xs S Q) : b__law_words sp_mix (D0 S Q) (startA 8 xs) S := by
  obtain ⟨a, m, rfl, h0, h1, h⟩ := h
  refine ⟨a, 1, rfl, by decide, by decide, fun r1 _ _ => ?_⟩
  have c1 := fmod_in (a := r1) (m := 7) (by decide)
  have zl : sizeLine = 2 ^ 24 := rfl
  refine ⟨(by decide : (7 : Int) ≠ 0), ⟨by omega, by omega, by omega⟩, ?_⟩
  refine compA_some (l := List.range (2 + r1.fmod 7).toNat) (e := fun i : Nat => .int (0 + (i : Int) * 1)) (P := fun y => ∃ w, y = .str w ∧ W 1 w) rfl trivial (fun i hi Q' q => ?_) fun ys hl hp => ?_
  · have hi := List.mem_range.mp hi
    refine ⟨a, 2 + (0 + (i : Int) * 1), rfl, by omega, by omega, fun r _ _ => ?_⟩
    have c := fmod_in (a := r) (m := 26) (by decide)
    exact ⟨(by decide : (26 : Int) ≠ 0), abc_ix c.1 c.2 fun w hw => q _ ⟨w, rfl, hw⟩⟩
  obtain ⟨zs, rfl, hz⟩ := as_map hp
  rw [List.length_map, List.length_range] at hl
  have wj := W.join hz
  have el : (("" : Str).length) = 0 := by decide +kernel
  have sm : (zs.map (·.length)).sum ≤ zs.length := by
    clear hl wj hp
    induction zs with
    | nil => exact Nat.le_refl _
    | cons z zs ih =>
      have := (hz z List.mem_cons_self).1
      have := ih fun w hw => hz w (List.mem_cons_of_mem _ hw)
      rw [List.map_cons, List.sum_cons, List.length_cons]
      omega
  dsimp only [aNil]
  refine rJoin_i rfl (strs_map zs) (by rw [el]; omega) ?_
  rw [show Txt.join "" zs = Str.join "" zs from StrLaws.glued_eq_join _ _]
  refine ⟨a, 11, rfl, by decide, by decide, fun r2 _ _ => ⟨by omega, a, 12, rfl, by decide, by decide, fun r3 _ _ => ?_⟩⟩
  have c2 := fmod_in (a := r2) (m := 2 + r1.fmod 7) (by omega)
  refine ⟨(by decide : (26 : Int) ≠ 0), ⟨by omega, by omega, by omega⟩, ?_⟩
  refine compA_some (l := List.range m.toNat) (e := fun i : Nat => .int (0 + (i : Int) * 1)) (P := fun y => ∃ w, y = .str w ∧ W 20 w) rfl trivial (fun i hi Q' q => ?_) fun ys hl' hp' => ?_
  · have hi := List.mem_range.mp hi
    have wl : (Str.join "" zs).length ≤ sizeLine := by have := wj.1; omega
    refine ⟨wl, .inl ⟨by decide, by decide⟩, (by decide : (26 : Int) ≠ 0), ?_⟩
    have c := fmod_in (a := r3.fmod 26 + 7 * (0 + (i : Int) * 1)) (m := 26) (by decide)
    refine abc_ix c.1 c.2 fun w hw => ?_
    have x1 := wj.cut (lo := none) (hi := some (r2.fmod (2 + r1.fmod 7)))
    have x2 := x1.app hw
    have x3 := wj.cut (lo := some (r2.fmod (2 + r1.fmod 7) + 1)) (hi := none)
    refine ⟨by have := x1.1; have := hw.1; omega, wl, by have := x2.1; have := x3.1; omega, q _ ⟨_, rfl, (x2.app x3).mono ?_⟩⟩
    omega
  obtain ⟨ws, rfl, hw⟩ := as_map hp'
  rw [List.length_map, List.length_range] at hl'
  exact .inl (h ws (by omega) hw)
def sp_free : SpA := fun xs S Q => ∃ a b : Int, xs = [.int a, .int b] ∧ 0 ≤ b ∧ b ≤ 1000 ∧ ∀ r : Int, 0 ≤ r → Q (.int r) S
theorem wp_free (xs : List AV) (S : Sto) (Q : AQ) (h : sp_free xs S Q) : b__law_free sp_mix (D0 S Q) (startA 2 xs) S := by
  obtain ⟨a, b, rfl, h0, h1, h⟩ := h
  refine ⟨(by decide : (2 : Int) ≠ 0), ?_⟩
  dsimp only [aC, rEqA]
  generalize (false ^^ (a.fmod 2 == 0)) = c
  cases c with
  | true => exact ⟨⟨by decide, by decide⟩, ⟨by decide, by decide, by decide⟩, p60, .inl (h _ (fmod_in (by decide)).1)⟩
  | false => exact ⟨⟨by decide, by decide⟩, a.fdiv 2, b, rfl, h0, h1, fun r h2 _ => .inl (h r h2)⟩
theorem zl0 : 0 ≤ sizeLine := Nat.zero_le _
theorem zl1 : 1 ≤ sizeLine := by decide
theorem zl2 : 2 ≤ sizeLine := by decide
theorem zl3 : 3 ≤ sizeLine := by decide
/-- words, read as a list -/
abbrev wordsA (ws : List Str) : AV := .fl (ws.map AV.str)
def sp_leaf : SpA := fun xs S Q => ∃ (n : Int) (sc : Nat) (ws : List Str), xs = [.int n, .int sc, wordsA ws] ∧ 0 ≤ n ∧ 2 ≤ ws.length ∧ (sc : Int) < 1000000 ∧ (∀ w ∈ ws, W 20 w) ∧ ∀ t, depT t = 1 → sizeT t = 1 → okT t → Q (enc t) S
theorem leaf_name (k : Nat) : depT (.name k) = 1 ∧ sizeT (.name k) = 1 ∧ okT (.name k) := ⟨rfl, rfl, (okT_eq _).mpr ⟨(fun _ h => nomatch h), (fun _ h => nomatch h)⟩⟩
theorem leaf_sign {w : Str} (h : okW w) : depT (.sign w []) = 1 ∧ sizeT (.sign w []) = 1 ∧ okT (.sign w []) := ⟨rfl, rfl, (okT_eq _).mpr ⟨(fun v e => by cases e; exact h), (fun _ h => nomatch h)⟩⟩
theorem word_ix {ws : List Str} {i : Int} (h0 : 0 ≤ i) (h1 : i < ws.length) (h : ∀ w ∈ ws, W 20 w) {S : Sto} {Q : AQ} (q : ∀ w, W 20 w → Q (.str w) S) : rIxA (wordsA ws) (.int i) S Q := by
  obtain ⟨n, rfl⟩ : ∃ n : Nat, i = n := ⟨i.toNat, by omega⟩
  have hn : n < ws.length := by omega
  exact rIxA_i (y := .str ws[n]) rfl (show (ws.map AV.str)[n]? = _ by rw [List.getElem?_map, List.getElem?_eq_getElem hn]; rfl) (q _ (h _ (List.getElem_mem hn)))
theorem wp_leaf (xs : List AV) (S : Sto) (Q : AQ) (h : sp_leaf xs S Q) : b__law_leaf (D0 S Q) (startA 3 xs) S := by
  obtain ⟨n, sc, ws, rfl, h0, hl, hs, hw, h⟩ := h
  have sg : ∀ w, W 20 w → aRet (aTup (aCons (aC (.str "sign")) (aCons (aC (.str w)) (aCons (aTup aNil) aNil)))) (D0 S Q) (startA 3 [.int n, .int sc, wordsA ws]) S := fun w hw => by
    obtain ⟨a, b, c⟩ := leaf_sign hw.ok
    exact ⟨zl0, zl3, .inl (h _ a b c)⟩
  have other : aRet (aTup (aCons (aC (.str "sign")) (aCons (aOp rIxA (aVar 2) (aOp rModA (aOp rFdivA (aVar 0) (aC (.int 3))) (aC (.int 2)))) (aCons (aTup aNil) aNil)))) (D0 S Q) (startA 3 [.int n, .int sc, wordsA ws]) S := by
    have c := fmod_in (a := n.fdiv 3) (m := 2) (by decide)
    exact ⟨⟨by decide, by decide⟩, (by decide : (2 : Int) ≠ 0), word_ix c.1 (by omega) hw fun w hw => sg w hw⟩
  refine ⟨trivial, ?_⟩
  dsimp only
  generalize hc : decide ((0 : Int) < (sc : Int)) = c
  cases c with
  | false => exact other
  | true =>
    have hc := of_decide_eq_true hc
    refine ⟨(by decide : (3 : Int) ≠ 0), trivial, ?_⟩
    dsimp only
    generalize decide (n.fmod 3 < 2) = c
    cases c with
    | false => exact other
    | true =>
      have c := fmod_in (a := n.fdiv 3) (m := sc) hc
      refine ⟨⟨by decide, by decide⟩, (by omega : (sc : Int) ≠ 0), zl2, .inl ?_⟩
      dsimp only
      obtain ⟨k, hk⟩ : ∃ k : Nat, (n.fdiv 3).fmod sc = k := ⟨((n.fdiv 3).fmod sc).toNat, by omega⟩
      rw [hk]
      obtain ⟨x, y, z⟩ := leaf_name k
      exact h _ x y z
end HA

/-! What the law's own helpers promise: drawn terms. -/
namespace HA
open PySem PySem.Spec PyProof.Rows L2 PySem.W
abbrev intsA (ns : List Int) : AV := .fl (ns.map AV.int)
abbrev holesA (hs : List (Str × Nat)) : AV := .fl (hs.map fun h => .tup [.str h.1, .int h.2])
theorem cutA_map {α β : Type} (f : α → β) (xs : List α) (lo hi : Option Int) : cutA (xs.map f) lo hi = (cutA xs lo hi).map f := by
  unfold cutA
  rw [List.length_map, List.map_take, List.map_drop]
theorem okD_ints (ns : List Int) : okD (intsA ns) = true := by
  show okDs (ns.map AV.int) = true
  rw [okDs_iff]
  intro x hx
  obtain ⟨k, _, rfl⟩ := List.mem_map.mp hx
  rfl
theorem okD_fl {xs : List AV} (h : ∀ x ∈ xs, okD x = true) : okD (.fl xs) = true := okDs_iff.mpr h
theorem okD_tup {xs : List AV} (h : ∀ x ∈ xs, okD x = true) : okD (.tup xs) = true := okDs_iff.mpr h
theorem eqD_nil (xs : List AV) : eqD (.fl xs) (.fl []) = xs.isEmpty := by
  cases xs with
  | nil => show PyData.eqv (.list []) (.list []) = true; simp [PyData.eqv, PyData.eqvAll]
  | cons x xs => show PyData.eqv (.list (dat x :: dats xs)) (.list []) = false; simp [PyData.eqv, PyData.eqvAll]
theorem dp_nil : dpA (.fl []) = 1 := by show (PyData.list []).depth = 1; simp [PyData.depth, PyData.depthAll]
/-- xs == [], xs != [] -/
theorem eqNil_i {neg : Bool} {x : AV} {xs : List AV} {S : Sto} {Q : AQ} (hx : unref S x = .fl xs) (h : ∀ y ∈ xs, okD y = true) (q : Q (.bl (neg ^^ xs.isEmpty)) S) : rEqA neg x (.fl []) S Q := by
  refine rEqA_i (b := .fl []) hx rfl (okD_fl h) rfl ?_ (by rw [eqD_nil]; exact q)
  have e : (dat (.fl [])).depth = 1 := dp_nil
  rw [e]
  unfold maxDep
  omega
structure TmPre (sc : Nat) (ws : List Str) (hs : List (Str × Nat)) (d : Nat) : Prop where
  sc : sc + 2 * d ≤ 1000
  wl : 5 ≤ ws.length
  w : ∀ w ∈ ws, W 20 w
  h : ∀ h ∈ hs, W 20 h.1 ∧ h.2 ≤ 3
  d : d ≤ 10
def sp_tm (n : Nat) : SpA := fun xs S Q => ∃ (cells : List Int) (sc : Nat) (ws : List Str) (hs : List (Str × Nat)) (d : Nat), xs = [intsA cells, .int sc, wordsA ws, holesA hs, .int d] ∧ d < n ∧ TmPre sc ws hs d ∧
  ∀ t rest, depT t ≤ d + 1 → sizeT t ≤ 4 ^ (d + 1) → okT t → Q (.tup [enc t, intsA rest]) S
theorem okD_pair {t : Tm} {rest : List Int} (h : okT t) : okD (.tup [enc t, intsA rest]) = true := okD_tup fun x hx => by
  rcases List.mem_cons.mp hx with rfl | hx
  · exact okD_enc t h
  · rcases List.mem_cons.mp hx with rfl | hx
    · exact okD_ints rest
    · cases hx
theorem inn_hole_mem {w : Str} {ts : List Tm} {p : Nat × Tm} (h : p ∈ inn (.hole w ts)) : p.2 ∈ ts := by
  obtain ⟨t, ht, rfl⟩ := List.mem_map.mp h
  exact ht
theorem pow_pos4 (d : Nat) : 1 ≤ 4 ^ d := Nat.pow_pos (by decide)
theorem sum_le {l : List Nat} {m : Nat} (h : ∀ x ∈ l, x ≤ m) : l.sum ≤ l.length * m := by
  induction l with
  | nil => simp
  | cons a l ih =>
    rw [List.sum_cons, List.length_cons, Nat.succ_mul]
    have := h a List.mem_cons_self
    have := ih fun x hx => h x (List.mem_cons_of_mem _ hx)
    omega
theorem up_of {t : Tm} {d : Nat} (hl : (inn t).length ≤ 3) (h : ∀ p ∈ inn t, depT p.2 ≤ d + 1 ∧ sizeT p.2 ≤ 4 ^ (d + 1)) : depT t ≤ d + 1 + 1 ∧ sizeT t ≤ 4 ^ (d + 1 + 1) := by
  constructor
  · rw [depT_eq]
    have : ((inn t).map fun p => depT p.2).foldr max 0 ≤ d + 1 := foldr_max_le fun x hx => by
      obtain ⟨p, hp, rfl⟩ := List.mem_map.mp hx
      exact (h p hp).1
    omega
  · rw [sizeT_eq]
    have a := sum_le (l := (inn t).map fun p => sizeT p.2) (m := 4 ^ (d + 1)) fun x hx => by
      obtain ⟨p, hp, rfl⟩ := List.mem_map.mp hx
      exact (h p hp).2
    rw [List.length_map] at a
    have b : (inn t).length * 4 ^ (d + 1) ≤ 3 * 4 ^ (d + 1) := Nat.mul_le_mul_right _ hl
    have c := pow_pos4 (d + 1)
    rw [Nat.pow_succ 4 (d + 1)]
    omega
def Good (d : Nat) (t : Tm) : Prop := depT t ≤ d + 1 ∧ sizeT t ≤ 4 ^ (d + 1) ∧ okT t
abbrev rgE (i : Nat) : AV := .int (0 + (i : Int) * 1)
def holeBody (sp : SpA) : ATS := aSeq (aAsg (aCall sp (aCons (aVar 6) (aCons (aVar 1) (aCons (aVar 2) (aCons (aVar 3) (aCons (aOp rSubA (aVar 4) (aC (.int 1))) aNil)))))) (gTp (gsCons (gNm 13) (gsCons (gNm 6) gsNil)))) (aDrop (aMtL (rMutA fAppend) (aVar 10) (aCons (aVar 13) aNil)))
theorem hole_loop {n d sc : Nat} {ws : List Str} {hs : List (Str × Nat)} {S : Sto} {D : AEnds} {v0 v5 v7 v8 v11 v12 x9 x13 : Option AV} {rest : List Int} {m : Nat} (hm : m ≤ 3) (pre : TmPre sc ws hs (d + 1)) (hd : d < n)
    (fin : ∀ (ts : List Tm) (rest : List Int) y9 y13, ts.length = m → (∀ t ∈ ts, Good d t) → D.nx [v0, some (.int sc), some (wordsA ws), some (holesA hs), some (.int (((d + 1 : Nat) : Int))), v5, some (intsA rest), v7, v8, y9, some (.ref S.length), v11, v12, y13] (S ++ [.lst (ts.map enc)])) :
    forA (fun _ => True) (gNm 9) (holeBody (sp_tm n)) (rgA 0 1 m) D [v0, some (.int sc), some (wordsA ws), some (holesA hs), some (.int (((d + 1 : Nat) : Int))), v5, some (intsA rest), v7, v8, x9, some (.ref S.length), v11, v12, x13] (S ++ [.lst []]) := by
  refine forA_inv (l := List.range m) (done := []) (e := rgE) (fun dn ρ S' => ∃ (ts : List Tm) (rest : List Int) (y9 y13 : Option AV), ts.length = dn.length ∧ (∀ t ∈ ts, Good d t) ∧ ρ = [v0, some (.int sc), some (wordsA ws), some (holesA hs), some (.int (((d + 1 : Nat) : Int))), v5, some (intsA rest), v7, v8, y9, some (.ref S.length), v11, v12, y13] ∧ S' = S ++ [.lst (ts.map enc)]) (fun _ _ _ _ => trivial) rfl
    ⟨[], rest, x9, x13, rfl, (fun _ h => nomatch h), rfl, rfl⟩ ?_ ?_
  · rintro dn i r ρ S' hl ⟨ts, rest, y9, y13, h1, h2, rfl, rfl⟩ nx hnx
    have e : ((d + 1 : Nat) : Int) - 1 = (d : Int) := by omega
    have hlen : dn.length < m := by
      have := congrArg List.length hl
      simp at this
      omega
    refine ⟨trivial, rest, sc, ws, hs, d, ?_, hd, ⟨by have := pre.sc; omega, pre.wl, pre.w, pre.h, by have := pre.d; omega⟩, fun t rest' g1 g2 g3 => ?_⟩
    · rw [← e]
    · show aMtL (rMutA fAppend) (aVar 10) (aCons (aVar 13) aNil) [v0, some (.int sc), some (wordsA ws), some (holesA hs), some (.int (((d + 1 : Nat) : Int))), v5, some (intsA rest'), v7, v8, some (rgE i), some (.ref S.length), v11, v12, some (enc t)] _ _
      refine app_i rfl (sto_new _ _) (var_i rfl (appM_i (sto_new _ _) ?_ ?_))
      · have : sizeLine = 2 ^ 24 := rfl
        rw [List.length_map]
        omega
      · refine hnx _ _ ⟨ts ++ [t], rest', some (rgE i), some (enc t), by rw [List.length_append, List.length_append, h1]; rfl, fun u hu => ?_, rfl, ?_⟩
        · rcases List.mem_append.mp hu with hu | hu
          · exact h2 u hu
          · rw [List.mem_singleton.mp hu]
            exact ⟨g1, g2, g3⟩
        · rw [snoc_set, List.map_append]
          rfl
  · rintro ρ S' ⟨ts, rest, y9, y13, h1, h2, rfl, rfl⟩
    exact fin ts rest y9 y13 (by rw [h1, List.nil_append, List.length_range]) h2
theorem ix4 {i : Int} (h0 : 0 ≤ i) (h1 : i < 4) {S : Sto} {Q : AQ} (q : ∀ m : Nat, m ≤ 2 → Q (.int m) S) : rIxA (.fl [.int 0, .int 0, .int 1, .int 2]) (.int i) S Q := by
  obtain ⟨n, rfl⟩ : ∃ n : Nat, i = n := ⟨i.toNat, by omega⟩
  match n, h1 with
  | 0, _ => exact q 0 (by decide)
  | 1, _ => exact q 0 (by decide)
  | 2, _ => exact q 1 (by decide)
  | 3, _ => exact q 2 (by decide)
  | n + 4, h => exact absurd h (by omega)
theorem ix3 {i : Nat} (h : i < 3) {S : Sto} {Q : AQ} (q : ∀ c : Int, 0 < c → c < 1000 → Q (.int c) S) : rIxA (.fl [.int 12, .int 48, .int 192]) (rgE i) S Q := by
  match i, h with
  | 0, _ => exact q 12 (by decide) (by decide)
  | 1, _ => exact q 48 (by decide) (by decide)
  | 2, _ => exact q 192 (by decide) (by decide)
  | n + 3, h => exact absurd h (by omega)
def signBody (sp : SpA) : ATS := aSeq (aSet 11 (aOp rIxA (aLst false (aCons (aC (.int 0)) (aCons (aC (.int 0)) (aCons (aC (.int 1)) (aCons (aC (.int 2)) aNil))))) (aOp rModA (aOp rFdivA (aVar 5) (aOp rIxA (aLst false (aCons (aC (.int 12)) (aCons (aC (.int 48)) (aCons (aC (.int 192)) aNil)))) (aVar 9))) (aC (.int 4)))))
  (aSeq (aAsg (aCall sp (aCons (aVar 6) (aCons (aOp rAddA (aVar 1) (aVar 11)) (aCons (aVar 2) (aCons (aVar 3) (aCons (aOp rSubA (aVar 4) (aC (.int 1))) aNil)))))) (gTp (gsCons (gNm 13) (gsCons (gNm 6) gsNil)))) (aDrop (aMtL (rMutA fAppend) (aVar 8) (aCons (aTup (aCons (aVar 11) (aCons (aVar 13) aNil))) aNil))))
theorem sign_loop {n d sc : Nat} {ws : List Str} {hs : List (Str × Nat)} {S : Sto} {D : AEnds} {v0 v7 v10 v12 x9 x11 x13 : Option AV} {rest : List Int} {m : Nat} {n5 : Int} (hm : m ≤ 3) (pre : TmPre sc ws hs (d + 1)) (hd : d < n)
    (fin : ∀ (ps : List (Nat × Tm)) (rest : List Int) y9 y11 y13, ps.length = m → (∀ p ∈ ps, Good d p.2) → D.nx [v0, some (.int sc), some (wordsA ws), some (holesA hs), some (.int (((d + 1 : Nat) : Int))), some (.int n5), some (intsA rest), v7, some (.ref S.length), y9, v10, y11, v12, y13] (S ++ [.lst (ps.map encP)])) :
    forA (fun _ => True) (gNm 9) (signBody (sp_tm n)) (rgA 0 1 m) D [v0, some (.int sc), some (wordsA ws), some (holesA hs), some (.int (((d + 1 : Nat) : Int))), some (.int n5), some (intsA rest), v7, some (.ref S.length), x9, v10, x11, v12, x13] (S ++ [.lst []]) := by
  refine forA_inv (l := List.range m) (done := []) (e := rgE) (fun dn ρ S' => ∃ (ps : List (Nat × Tm)) (rest : List Int) (y9 y11 y13 : Option AV), ps.length = dn.length ∧ (∀ p ∈ ps, Good d p.2) ∧ ρ = [v0, some (.int sc), some (wordsA ws), some (holesA hs), some (.int (((d + 1 : Nat) : Int))), some (.int n5), some (intsA rest), v7, some (.ref S.length), y9, v10, y11, v12, y13] ∧ S' = S ++ [.lst (ps.map encP)])
    (fun _ _ _ _ => trivial) rfl ⟨[], rest, x9, x11, x13, rfl, (fun _ h => nomatch h), rfl, rfl⟩ ?_ ?_
  · rintro dn i r ρ S' hl ⟨ts, rest, y9, y11, y13, h1, h2, rfl, rfl⟩ nx hnx
    have e : ((d + 1 : Nat) : Int) - 1 = (d : Int) := by omega
    have hlen : dn.length < m := by
      have := congrArg List.length hl
      simp at this
      omega
    have hi : i < 3 := by
      have z : i ∈ List.range m := by
        rw [show List.range m = dn ++ i :: r from hl]
        simp
      have := List.mem_range.mp z
      omega
    refine ⟨by decide, by decide, ?_⟩
    dsimp only [aNew]
    refine var_i (x := rgE i) rfl (ix3 hi fun c c0 c1 => ⟨⟨by omega, by omega⟩, (by decide : (4 : Int) ≠ 0), ?_⟩)
    have cc := fmod_in (a := n5.fdiv c) (m := 4) (by decide)
    refine ix4 cc.1 cc.2 fun k hk => ?_
    have pre' : TmPre (sc + k) ws hs d := ⟨by have := pre.sc; omega, pre.wl, pre.w, pre.h, by have := pre.d; omega⟩
    refine ⟨trivial, rest, sc + k, ws, hs, d, ?_, hd, pre', fun t rest' g1 g2 g3 => ?_⟩
    · show [_, _, _, _, AV.int (((d + 1 : Nat) : Int) - 1)] = _
      rw [e, Int.natCast_add sc k]
    · show aMtL (rMutA fAppend) (aVar 8) (aCons (aTup (aCons (aVar 11) (aCons (aVar 13) aNil))) aNil) [v0, some (.int sc), some (wordsA ws), some (holesA hs), some (.int (((d + 1 : Nat) : Int))), some (.int n5), some (intsA rest'), v7, some (.ref S.length), some (rgE i), v10, some (.int k), v12, some (enc t)] _ _
      refine app_i rfl (sto_new _ _) ⟨zl2, appM_i (sto_new _ _) ?_ ?_⟩
      · have : sizeLine = 2 ^ 24 := rfl
        rw [List.length_map]
        omega
      · refine hnx _ _ ⟨ts ++ [(k, t)], rest', some (rgE i), some (.int k), some (enc t), by rw [List.length_append, List.length_append, h1]; rfl, fun u hu => ?_, rfl, ?_⟩
        · rcases List.mem_append.mp hu with hu | hu
          · exact h2 u hu
          · rw [List.mem_singleton.mp hu]
            exact ⟨g1, g2, g3⟩
        · rw [snoc_set, List.map_append]
          rfl
  · rintro ρ S' ⟨ts, rest, y9, y11, y13, h1, h2, rfl, rfl⟩
    exact fin ts rest y9 y11 y13 (by rw [h1, List.nil_append, List.length_range]) h2
def holePart (sp : SpA) : ATS := aSeq (aAsg (aOp rIxA (aVar 3) (aOp rModA (aVar 5) (aCall rLenA (aCons (aVar 3) aNil)))) (gTp (gsCons (gNm 12) (gsCons (gNm 11) gsNil)))) (aSeq (aSet 10 (aLst true aNil)) (aSeq (aFor (aRange1 (aCons (aVar 11) aNil)) (gNm 9) (holeBody sp)) (aRet (aTup (aCons (aTup (aCons (aC (.str "hole")) (aCons (aVar 12) (aCons (aCall rTupA (aCons (aVar 10) aNil)) aNil)))) (aCons (aVar 6) aNil))))))
def signPart (sp : SpA) : ATS := aSeq (aSet 8 (aLst true aNil)) (aSeq (aFor (aRange1 (aCons (aOp rAddA (aC (.int 1)) (aOp rModA (aVar 5) (aC (.int 3)))) aNil)) (gNm 9) (signBody sp)) (aRet (aTup (aCons (aTup (aCons (aC (.str "sign")) (aCons (aOp rIxA (aVar 2) (aOp rAddA (aC (.int 2)) (aOp rModA (aOp rModA (aOp rFdivA (aVar 5) (aC (.int 3))) (aC (.int 4))) (aC (.int 3))))) (aCons (aCall rTupA (aCons (aVar 8) aNil)) aNil)))) (aCons (aVar 6) aNil)))))
theorem hole_part {n d sc : Nat} {ws : List Str} {hs : List (Str × Nat)} {S : Sto} {Q : AQ} {v0 v7 v8 v9 v10 v11 v12 v13 : Option AV} {rest : List Int} {n5 : Int} (pre : TmPre sc ws hs (d + 1)) (hd : d < n) (hne : hs ≠ [])
    (h : ∀ t rest, Good (d + 1) t → Q (.tup [enc t, intsA rest]) S) : holePart (sp_tm n) (D0 S Q) [v0, some (.int sc), some (wordsA ws), some (holesA hs), some (.int (((d + 1 : Nat) : Int))), some (.int n5), some (intsA rest), v7, v8, v9, v10, v11, v12, v13] S := by
  have hl : 0 < hs.length := List.length_pos_iff.mpr hne
  have c := fmod_in (a := n5) (m := (hs.length : Int)) (by omega)
  obtain ⟨i, hi⟩ : ∃ i : Nat, n5.fmod (hs.length : Int) = i := ⟨(n5.fmod (hs.length : Int)).toNat, by omega⟩
  have hlt : i < hs.length := by omega
  have pr := pre.h hs[i] (List.getElem_mem hlt)
  obtain ⟨q, hq⟩ : ∃ q : AV, q = .tup [.str hs[i].1, .int hs[i].2] := ⟨_, rfl⟩
  have eq : (hs.map fun h => AV.tup [.str h.1, .int h.2])[i]? = some q := by rw [List.getElem?_map, List.getElem?_eq_getElem hlt, hq]; rfl
  have go : rIxA (holesA hs) (.int (n5.fmod (hs.length : Int))) S fun x S1 => gTp (gsCons (gNm 12) (gsCons (gNm 11) gsNil)) x [v0, some (.int sc), some (wordsA ws), some (holesA hs), some (.int (((d + 1 : Nat) : Int))), some (.int n5), some (intsA rest), v7, v8, v9, v10, v11, v12, v13] S1 (aSeq (aSet 10 (aLst true aNil)) (aSeq (aFor (aRange1 (aCons (aVar 11) aNil)) (gNm 9) (holeBody (sp_tm n))) (aRet (aTup (aCons (aTup (aCons (aC (.str "hole")) (aCons (aVar 12) (aCons (aCall rTupA (aCons (aVar 10) aNil)) aNil)))) (aCons (aVar 6) aNil))))) (D0 S Q)) := by
    rw [hi]
    refine rIxA_i rfl eq ?_
    subst hq
    refine ⟨zl0, ⟨by omega, by omega, by have : sizeLine = 2 ^ 24 := rfl; omega⟩, ?_⟩
    refine hole_loop (m := ((hs[i].2 : Nat) : Int).toNat) (by omega) pre hd fun ts rest y9 y13 h1 h2 => ?_
    dsimp only [aRet, aTup, aCons, aC, aNil, aCall, aVar, List.getElem?_cons_succ, List.getElem?_cons_zero]
    refine rTup_i (seqA_ref (sto_new _ _)) ⟨zl3, zl2, ?_⟩
    have g : Good (d + 1) (.hole hs[i].1 ts) := by
      have u := up_of (t := .hole hs[i].1 ts) (d := d) (by show (ts.map _).length ≤ 3; rw [List.length_map]; omega) fun p hp => ⟨(h2 _ (inn_hole_mem hp)).1, (h2 _ (inn_hole_mem hp)).2.1⟩
      refine ⟨u.1, u.2, (okT_eq _).mpr ⟨fun w e => by cases e; exact pr.1.ok, fun p hp => (h2 _ (inn_hole_mem hp)).2.2⟩⟩
    have ee : AV.tup [.str "hole", .str hs[i].1, .tup (ts.map enc)] = enc (.hole hs[i].1 ts) := by rw [← encs_map]; rfl
    rw [ee]
    exact ret_dat (noRef_ok _ (okD_pair g.2.2)) (h _ _ g)
  have el : ((hs.map fun h => AV.tup [.str h.1, .int h.2]).length : Int) = (hs.length : Int) := by rw [List.length_map]
  refine ⟨by rw [el]; omega, ?_⟩
  rw [el]
  exact go
theorem sign_part {n d sc : Nat} {ws : List Str} {hs : List (Str × Nat)} {S : Sto} {Q : AQ} {v0 v7 v8 v9 v10 v11 v12 v13 : Option AV} {rest : List Int} {n5 : Int} (pre : TmPre sc ws hs (d + 1)) (hd : d < n)
    (h : ∀ t rest, Good (d + 1) t → Q (.tup [enc t, intsA rest]) S) : signPart (sp_tm n) (D0 S Q) [v0, some (.int sc), some (wordsA ws), some (holesA hs), some (.int (((d + 1 : Nat) : Int))), some (.int n5), some (intsA rest), v7, v8, v9, v10, v11, v12, v13] S := by
  have c3 := fmod_in (a := n5) (m := 3) (by decide)
  refine ⟨zl0, (by decide : (3 : Int) ≠ 0), ⟨by omega, by omega, by have : sizeLine = 2 ^ 24 := rfl; omega⟩, ?_⟩
  refine sign_loop (m := (1 + n5.fmod 3).toNat) (by omega) pre hd fun ps rest y9 y11 y13 h1 h2 => ?_
  have c := fmod_in (a := ((n5.fdiv 3).fmod 4)) (m := 3) (by decide)
  have go : rIxA (wordsA ws) (.int (2 + ((n5.fdiv 3).fmod 4).fmod 3)) (S ++ [.lst (ps.map encP)]) fun x S1 => rTupA [.ref S.length] S1 fun y S2 => [AV.str "sign", x, y].length ≤ sizeLine ∧ [AV.tup [AV.str "sign", x, y], intsA rest].length ≤ sizeLine ∧ retQ S Q (.tup [.tup [.str "sign", x, y], intsA rest]) S2 := by
    refine word_ix (by omega) (by have := pre.wl; omega) pre.w fun w hw => ?_
    refine rTup_i (seqA_ref (sto_new _ _)) ⟨zl3, zl2, ?_⟩
    have g : Good (d + 1) (.sign w ps) := by
      have u := up_of (t := .sign w ps) (d := d) (by show ps.length ≤ 3; omega) fun p hp => ⟨(h2 _ hp).1, (h2 _ hp).2.1⟩
      refine ⟨u.1, u.2, (okT_eq _).mpr ⟨fun v e => by cases e; exact hw.ok, fun p hp => (h2 _ hp).2.2⟩⟩
    have ee : AV.tup [.str "sign", .str w, .tup (ps.map encP)] = enc (.sign w ps) := by rw [← encPs_map]; rfl
    rw [ee]
    exact ret_dat (noRef_ok _ (okD_pair g.2.2)) (h _ _ g)
  exact ⟨⟨by decide, by decide⟩, (by decide : (4 : Int) ≠ 0), (by decide : (3 : Int) ≠ 0), go⟩
theorem wp_term (n : Nat) (xs : List AV) (S : Sto) (Q : AQ) (h : sp_tm (n + 1) xs S Q) : b__law_term sp_free sp_leaf (sp_tm n) (D0 S Q) (startA 14 xs) S := by
  obtain ⟨cells, sc, ws, hs, d, rfl, hd, pre, h⟩ := h
  have lf : ∀ (x : Int) (rest : List Int) (K : AQ), 0 ≤ x → (∀ t, Good d t → K (enc t) S) → sp_leaf [.int x, .int sc, wordsA ws] S K := fun x rest K hx hk =>
    ⟨x, sc, ws, rfl, hx, by have := pre.wl; omega, by have := pre.sc; omega, pre.w, fun t a b c => hk t ⟨by omega, by have := pow_pos4 (d + 1); omega, c⟩⟩
  have out : ∀ (t : Tm) (rest : List Int), Good d t → retQ S Q (.tup [enc t, intsA rest]) S := fun t rest g => .inl (h t rest g.1 g.2.1 g.2.2)
  have cut1 : cutA (cells.map AV.int) (some 1) none = (cutA cells (some 1) none).map AV.int := cutA_map _ _ _ _
  -- no cell left, or deep enough
  have base : aRet (aTup (aCons (aCall sp_leaf (aCons (aCall sp_free (aCons (aCall rSumA (aCons (aSl false (aVar 0) aNoPart (aPart (aC (.int 1)))) aNil)) (aCons (aC (.int 0)) aNil))) (aCons (aVar 1) (aCons (aVar 2) aNil)))) (aCons (aSl false (aVar 0) (aPart (aC (.int 1))) aNoPart) aNil))) (D0 S Q) (startA 14 [intsA cells, .int sc, wordsA ws, holesA hs, .int d]) S := by
    have e : ints? (cutA (cells.map AV.int) none (some 1)) = some (cutA cells none (some 1)) := by rw [cutA_map]; exact ints_map _
    have key : rSumA [.fl (cutA (cells.map AV.int) none (some 1))] S fun x S1 => sp_free [x, .int 0] S1 fun y S2 => sp_leaf [y, .int sc, wordsA ws] S2 fun z S3 => [z, .fl (cutA (cells.map AV.int) (some 1) none)].length ≤ sizeLine ∧ retQ S Q (.tup [z, .fl (cutA (cells.map AV.int) (some 1) none)]) S3 := by
      refine rList1_i rfl e ⟨_, 0, rfl, by decide, by decide, fun r hr => lf r [] _ hr fun t g => ⟨zl2, ?_⟩⟩
      rw [cut1]
      exact out t _ g
    exact key
  have main : ∀ (d' : Nat) (n5 : Int) (left : List Int) (v7 : Option AV), d = d' + 1 → 0 ≤ n5 → (∃ way : Int, v7 = some (.int way)) → aSeq (aIf (aB (aOp rLtA (aVar 7) (aC (.int 2)))) (aRet (aTup (aCons (aCall sp_leaf (aCons (aVar 5) (aCons (aVar 1) (aCons (aVar 2) aNil)))) (aCons (aVar 6) aNil)))) aNext)
      (aSeq (aIf (aAndT (aB (aOp rLtA (aVar 7) (aC (.int 4)))) (aB (aOp (rEqA true) (aVar 3) (aLst false aNil)))) (holePart (sp_tm n)) aNext) (signPart (sp_tm n))) (D0 S Q)
      [some (intsA cells), some (.int sc), some (wordsA ws), some (holesA hs), some (.int d), some (.int n5), some (intsA left), v7, none, none, none, none, none, none] S := by
    rintro d' n5 left _ rfl h5 ⟨way, rfl⟩
    refine ⟨trivial, ?_⟩
    dsimp only
    generalize decide (way < 2) = b
    cases b with
    | true => exact lf n5 [] (fun z S3 => [z, intsA left].length ≤ sizeLine ∧ retQ S Q (.tup [z, intsA left]) S3) h5 fun t g => ⟨zl2, out t _ g⟩
    | false =>
      refine ⟨trivial, ?_⟩
      dsimp only
      generalize decide (way < 4) = b
      cases b with
      | false => exact sign_part pre (by omega) fun t rest g => h t rest g.1 g.2.1 g.2.2
      | true =>
        refine ⟨zl0, ?_⟩
        dsimp only [aNew]
        refine eqNil_i (xs := hs.map fun h => .tup [.str h.1, .int h.2]) rfl (fun y hy => ?_) ?_
        · obtain ⟨q, hq, rfl⟩ := List.mem_map.mp hy
          refine okD_tup fun z hz => ?_
          rcases List.mem_cons.mp hz with rfl | hz
          · exact (pre.h q hq).1.ok
          · rcases List.mem_cons.mp hz with rfl | hz
            · rfl
            · cases hz
        · cases hs with
          | nil => exact sign_part pre (by omega) fun t rest g => h t rest g.1 g.2.1 g.2.2
          | cons q qs => exact hole_part pre (by omega) (fun z => nomatch z) fun t rest g => h t rest g.1 g.2.1 g.2.2
  refine ⟨zl0, ?_⟩
  dsimp only [aNew]
  refine eqNil_i (xs := cells.map AV.int) rfl (okDs_iff.mp (okD_ints cells)) ?_
  cases cells with
  | nil => exact base
  | cons c cs =>
    cases d with
    | zero => exact base
    | succ d' =>
      refine ⟨c, 1, rfl, by decide, by decide, fun r hr => ⟨(by decide : (8 : Int) ≠ 0), ⟨by decide, by decide⟩, ?_⟩⟩
      have m := main d' (r.fdiv 8) (cutA (c :: cs) (some 1) none) (some (.int (r.fmod 8))) rfl (Int.fdiv_nonneg hr (by decide)) ⟨_, rfl⟩
      dsimp only [intsA] at m
      rw [← cut1] at m
      exact m
end HA

/-! The law of places: what is drawn, grown, walked. -/
namespace HA
open PySem PySem.Spec PyProof.Rows L2 PySem.W
def sp_drawn : SpA := fun xs S Q => ∃ (cells : List Int) (sc : Nat) (seed : Int), xs = [intsA cells, .int sc, .int seed] ∧ sc ≤ 10 ∧ ∀ t, Good 4 t → Q (enc t) S
theorem wp_drawn (xs : List AV) (S : Sto) (Q : AQ) (h : sp_drawn xs S Q) : b__law_drawn sp_words (sp_tm 5) (D0 S Q) (startA 6 xs) S := by
  obtain ⟨cells, sc, seed, rfl, hs, h⟩ := h
  refine ⟨seed, 9, rfl, by decide, by decide, fun ws hl hw => ⟨by decide, ?_⟩⟩
  refine compA_some (l := List.range 4) (e := rgE) (P := fun y => ∃ p : Str × Nat, y = .tup [.str p.1, .int p.2] ∧ (W 20 p.1 ∧ p.2 ≤ 3)) rfl trivial (fun i hi Q' q => ?_) fun ys hl' hp => ?_
  · have hi := List.mem_range.mp hi
    have go : rIxA (wordsA ws) (.int (5 + (0 + (i : Int) * 1))) S fun x S1 => [x, rgE i].length ≤ sizeLine ∧ Q' (some (.tup [x, rgE i])) S1 := by
      refine word_ix (by omega) (by omega) hw fun w hw' => ⟨zl2, q _ ⟨(w, i), ?_, hw', by omega⟩⟩
      have e : (0 + (i : Int) * 1) = i := by omega
      show AV.tup [.str w, .int (0 + (i : Int) * 1)] = _
      rw [e]
    exact go
  · obtain ⟨hs', rfl, hh⟩ := as_map (f := fun p : Str × Nat => AV.tup [.str p.1, .int p.2]) (P := fun p => W 20 p.1 ∧ p.2 ≤ 3) hp
    refine ⟨cutA cells none (some 12), sc, ws, hs', 4, ?_, by decide, ⟨by omega, by omega, hw, hh, by decide⟩, fun t rest a b c => .inl (h t ⟨a, b, c⟩)⟩
    show [AV.fl (cutA (cells.map AV.int) none (some 12)), _, _, _, _] = _
    rw [cutA_map]
    rfl
structure Fit (t : Tm) : Prop where
  ok : okT t
  dp : depT t ≤ 30
  sz : sizeT t ≤ 2000
def leafA : Tm := .sign "a" []
theorem leafA_good : depT leafA = 1 ∧ sizeT leafA = 1 ∧ okT leafA := leaf_sign (by decide +kernel)
def sp_grown : SpA := fun xs S Q => ∃ (t : Tm) (n : Int), xs = [enc t, .int n] ∧ 0 ≤ n ∧ Good 4 t ∧ ∀ u, Fit u → Q (enc u) S
theorem rep_flat {α : Type} (x : α) : ∀ k : Nat, (List.replicate k [x]).flatten = List.replicate k x
  | 0 => rfl
  | k + 1 => by rw [List.replicate_succ, List.flatten_cons, rep_flat x k, List.replicate_succ]; rfl
theorem rMulL_i {x : AV} {xs : List AV} {k : Int} {S : Sto} {Q : AQ} (hx : asM S x = some xs) (h0 : 0 ≤ k) (h1 : k < 1000) (hl : xs.length ≤ 1000) (q : Q (.fl (List.replicate k.toNat xs).flatten) S) : rMulA x (.int k) S Q := by
  have zl : sizeLine = 2 ^ 24 := rfl
  have : xs.length * k.toNat ≤ 1000 * 1000 := Nat.mul_le_mul hl (by omega)
  unfold rMulA
  split
  · exact nomatch hx
  · rename_i h
    cases h
    rw [hx]
    exact ⟨⟨by omega, by omega, by omega⟩, q⟩
  · rename_i h1 h2
    first | exact (h2 _ rfl).elim | exact (h1 _ rfl).elim
theorem max_rep {β : Type} (f : β → Nat) {l : List β} {n : Nat} (h : ∀ x ∈ l, f x ≤ n) : (l.map f).foldr max 0 ≤ n := foldr_max_le fun x hx => by
  obtain ⟨p, hp, rfl⟩ := List.mem_map.mp hx
  exact h p hp
theorem deep_fit {t : Tm} {d z : Nat} (h : okT t) (hd : depT t ≤ d) (hz : sizeT t ≤ z) : okT (.sign "deep" [(0, t)]) ∧ depT (.sign "deep" [(0, t)]) ≤ d + 1 ∧ sizeT (.sign "deep" [(0, t)]) ≤ z + 1 := by
  refine ⟨(okT_eq _).mpr ⟨fun v e => by cases e; decide +kernel, fun p hp => ?_⟩, ?_, ?_⟩
  · have : p = (0, t) := by simpa [inn] using hp
    rw [this]
    exact h
  · rw [depT_eq]
    have := max_rep (fun p : Nat × Tm => depT p.2) (l := inn (.sign "deep" [(0, t)])) (n := d) fun p hp => by
      have : p = (0, t) := by simpa [inn] using hp
      rw [this]
      exact hd
    omega
  · rw [sizeT_eq]
    show 1 + ([sizeT t]).sum ≤ _
    simp
    omega
theorem wp_grown (xs : List AV) (S : Sto) (Q : AQ) (h : sp_grown xs S Q) : b__law_grown (D0 S Q) (startA 5 xs) S := by
  obtain ⟨t, n, rfl, h0, g, h⟩ := h
  have zl : sizeLine = 2 ^ 24 := rfl
  have gs : sizeT t ≤ 4 ^ (4 + 1) := g.2.1
  have fit : Fit t := ⟨g.2.2, by have := g.1; omega, by omega⟩
  refine ⟨zl0, zl3, (by decide : (3 : Int) ≠ 0), ?_⟩
  dsimp only [aC, rEqA]
  generalize (false ^^ (n.fmod 3 == 0)) = b
  cases b with
  | true =>
    have c := fmod_in (a := n.fdiv 3) (m := 11) (by decide)
    have c5 := fmod_in (a := n.fdiv 33) (m := 5) (by decide)
    obtain ⟨k, hk⟩ : ∃ k : Nat, (n.fdiv 3).fmod 11 = k := ⟨((n.fdiv 3).fmod 11).toNat, by omega⟩
    obtain ⟨j, hj⟩ : ∃ j : Nat, (n.fdiv 33).fmod 5 = j := ⟨((n.fdiv 33).fmod 5).toNat, by omega⟩
    have g2 : Fit (.sign "wide" (List.replicate k (0, leafA) ++ [(j, t)])) := by
      obtain ⟨a1, a2, a3⟩ := leafA_good
      refine ⟨(okT_eq _).mpr ⟨fun v e => by cases e; decide +kernel, fun p hp => ?_⟩, ?_, ?_⟩
      · rcases List.mem_append.mp (show p ∈ List.replicate k (0, leafA) ++ [(j, t)] from hp) with hp | hp
        · rw [List.eq_of_mem_replicate hp]; exact a3
        · rw [List.mem_singleton.mp hp]; exact g.2.2
      · rw [depT_eq]
        have := max_rep (fun p : Nat × Tm => depT p.2) (l := inn (.sign "wide" (List.replicate k (0, leafA) ++ [(j, t)]))) (n := 5) fun p hp => by
          rcases List.mem_append.mp (show p ∈ List.replicate k (0, leafA) ++ [(j, t)] from hp) with hp | hp
          · rw [List.eq_of_mem_replicate hp]; show depT leafA ≤ 5; omega
          · rw [List.mem_singleton.mp hp]; exact g.1
        omega
      · rw [sizeT_eq]
        show 1 + ((List.replicate k (0, leafA) ++ [(j, t)]).map fun p : Nat × Tm => sizeT p.2).sum ≤ _
        rw [List.map_append, List.sum_append, List.map_replicate, List.sum_replicate_nat]
        show 1 + (k * sizeT leafA + (sizeT t + 0)) ≤ _
        rw [a2]
        omega
    have go : rMulA (.fl [.tup [.int 0, enc leafA]]) (.int ((n.fdiv 3).fmod 11)) S fun x S1 => rFdivA (.int n) (.int 33) S1 fun y S2 => rModA y (.int 5) S2 fun z S3 => [z, enc t].length ≤ sizeLine ∧ [AV.tup [z, enc t]].length ≤ sizeLine ∧ rAddA x (.fl [.tup [z, enc t]]) S3 fun w S4 => rTupA [w] S4 fun v S5 => [AV.str "sign", .str "wide", v].length ≤ sizeLine ∧ retQ S Q (.tup [.str "sign", .str "wide", v]) S5 := by
      refine rMulL_i rfl c.1 (by omega) (by show 1 ≤ 1000; decide) ⟨⟨by decide, by decide⟩, (by decide : (5 : Int) ≠ 0), zl2, zl1, ?_⟩
      rw [rep_flat, hk]
      refine rAddL_i rfl rfl (by rw [List.length_replicate]; show _ + 1 ≤ _; omega) ⟨zl3, .inl ?_⟩
      have ee : AV.tup [.str "sign", .str "wide", .tup (List.replicate (((k : Nat) : Int).toNat) (.tup [.int 0, enc leafA]) ++ [.tup [.int ((n.fdiv 33).fmod 5), enc t]])] = enc (.sign "wide" (List.replicate k (0, leafA) ++ [(j, t)])) := by
        show _ = AV.tup [.str "sign", .str "wide", .tup (encPs _)]
        rw [encPs_map, List.map_append, List.map_replicate, hj]
        rfl
      dsimp only
      rw [ee]
      exact h _ g2
    exact ⟨zl2, zl1, ⟨by decide, by decide⟩, (by decide : (11 : Int) ≠ 0), go⟩
  | false =>
    refine ⟨(by decide : (3 : Int) ≠ 0), ?_⟩
    dsimp only [aC, rEqA]
    generalize (false ^^ (n.fmod 3 == 1)) = b
    cases b with
    | false => exact .inl (h _ fit)
    | true =>
      have c := fmod_in (a := n.fdiv 3) (m := 12) (by decide)
      refine ⟨⟨by decide, by decide⟩, (by decide : (12 : Int) ≠ 0), ⟨by omega, by omega, by omega⟩, ?_⟩
      refine forA_inv (l := List.range ((n.fdiv 3).fmod 12).toNat) (done := []) (e := rgE) (fun dn ρ S' => ∃ (u : Tm) (y4 : Option AV), okT u ∧ depT u ≤ 5 + dn.length ∧ sizeT u ≤ 1024 + dn.length ∧ ρ = [some (enc u), some (.int n), some (enc leafA), none, y4] ∧ S' = S) (fun _ _ _ _ => trivial) rfl ⟨t, none, g.2.2, g.1, gs, rfl, rfl⟩ ?_ ?_
      · rintro dn i r ρ S' hl ⟨u, y4, o1, o2, o3, rfl, rfl⟩ nx hnx
        obtain ⟨q1, q2, q3⟩ := deep_fit o1 o2 o3
        exact ⟨zl2, zl1, zl3, hnx _ _ ⟨.sign "deep" [(0, u)], some (rgE i), q1, by rw [List.length_append]; exact q2, by rw [List.length_append]; exact q3, rfl, rfl⟩⟩
      · rintro ρ S' ⟨u, y4, o1, o2, o3, rfl, rfl⟩
        rw [List.nil_append, List.length_range] at o2 o3
        exact .inl (h u ⟨o1, by omega, by omega⟩)
/-! ### the walk by a stack -/
theorem wp_linner (xs : List AV) (S : Sto) (Q : AQ) (h : sp_inner xs S Q) : b__law_inner (D0 S Q) (startA 2 xs) S := wp_inner xs S Q h
def sp_first : SpA := fun xs S Q => ∃ p r, xs = [.tup (p :: r)] ∧ Q p S
theorem wp_first (xs : List AV) (S : Sto) (Q : AQ) (h : sp_first xs S Q) : b__law_place_first (D0 S Q) (startA 1 xs) S := by
  obtain ⟨p, r, rfl, h⟩ := h
  exact .inl h
theorem get2a (S : Sto) (c d : Cell) : (S ++ [c, d])[S.length]? = some c := by simp
theorem get2b (S : Sto) (c d : Cell) : (S ++ [c, d])[S.length + 1]? = some d := by simp
theorem set2a (S : Sto) (c d e : Cell) : (S ++ [c, d]).set S.length e = S ++ [e, d] := by simp
theorem set2b (S : Sto) (c d e : Cell) : (S ++ [c, d]).set (S.length + 1) e = S ++ [c, e] := by simp
def walkKid : ATS := aDrop (aMtL (rMutA fAppend) (aVar 1) (aCons (aTup (aCons (aOp rAddA (aVar 3) (aTup (aCons (aVar 6) aNil))) (aCons (aOp rAddA (aVar 4) (aOp rIxA (aVar 7) (aC (.int 0)))) (aCons (aOp rIxA (aVar 7) (aC (.int 1))) aNil)))) aNil))
theorem kids_loop {S : Sto} {D : AEnds} {v0 v2 y6 y7 : Option AV} {w : Row} {rest : List Row} {fd : Cell} (hp : w.1.length ≤ 100) (hz : rest.length + (inn w.2.2).length ≤ 10000)
    (fin : ∀ z6 z7, D.nx [v0, some (.ref S.length), v2, some (encPl w.1), some (.int w.2.1), some (enc w.2.2), z6, z7] (S ++ [.lst ((rest ++ ((inn w.2.2).zipIdx).map (kid w)).map encRow), fd])) :
    forA (fun _ => True) (gTp (gsCons (gNm 6) (gsCons (gNm 7) gsNil))) walkKid (enumA (encPs (inn w.2.2))) D [v0, some (.ref S.length), v2, some (encPl w.1), some (.int w.2.1), some (enc w.2.2), y6, y7] (S ++ [.lst (rest.map encRow), fd]) := by
  have zl : sizeLine = 2 ^ 24 := rfl
  refine forA_inv (l := (inn w.2.2).zipIdx) (done := []) (e := fun p => AV.tup [.int (p.2 : Nat), encP p.1]) (fun dn ρ S' => ∃ z6 z7, ρ = [v0, some (.ref S.length), v2, some (encPl w.1), some (.int w.2.1), some (enc w.2.2), z6, z7] ∧ S' = S ++ [.lst ((rest ++ dn.map (kid w)).map encRow), fd]) (fun _ _ _ _ => trivial) (places_map w.2.2)
    ⟨y6, y7, rfl, by simp⟩ ?_ ?_
  · rintro dn ⟨q, i⟩ r ρ S' hl ⟨z6, z7, rfl, rfl⟩ nx hnx
    have hlen : dn.length < (inn w.2.2).length := by
      have := congrArg List.length hl
      simp at this
      omega
    show aMtL (rMutA fAppend) (aVar 1) _ [v0, some (.ref S.length), v2, some (encPl w.1), some (.int w.2.1), some (enc w.2.2), some (.int i), some (encP q)] _ _
    refine app_i rfl (get2a _ _ _) ⟨zl1, by show (w.1.map AV.int).length + 1 ≤ _; rw [List.length_map]; omega, zl3, appM_i (get2a _ _ _) ?_ ?_⟩
    · rw [List.length_map, List.length_append, List.length_map]
      omega
    · rw [set2a]
      refine hnx _ _ ⟨some (.int i), some (encP q), rfl, ?_⟩
      have e : AV.tup [.tup (w.1.map AV.int ++ [.int i]), .int ((w.2.1 : Int) + (q.1 : Int)), enc q.2] = encRow (kid w (q, i)) := by
        unfold encRow kid encPl
        dsimp only
        rw [List.map_append, Int.natCast_add]
        rfl
      rw [e]
      simp only [List.map_append, List.map_cons, List.map_nil, List.append_assoc]
  · rintro ρ S' ⟨z6, z7, rfl, rfl⟩
    rw [List.nil_append]
    exact fin z6 z7
def walkBody (sp : SpA) : ATS := aSeq (aAsg (aMtL (rMutA fPop) (aVar 1) aNil) (gTp (gsCons (gNm 3) (gsCons (gNm 4) (gsCons (gNm 5) gsNil))))) (aSeq (aDrop (aMtL (rMutA fAppend) (aVar 2) (aCons (aTup (aCons (aVar 3) (aCons (aVar 4) (aCons (aVar 5) aNil)))) aNil))) (aFor (aEnum (aCons (aCall sp (aCons (aVar 5) aNil)) aNil)) (gTp (gsCons (gNm 6) (gsCons (gNm 7) gsNil))) walkKid))
theorem walk_while {t : Tm} (ft : Fit t) {S : Sto} {D : AEnds} {v0 : Option AV} (fin : ∀ (l : List Row) y3 y4 y5 y6 y7, l.Perm (rowsT t) → D.nx [v0, some (.ref S.length), some (.ref (S.length + 1)), y3, y4, y5, y6, y7] (S ++ [.lst [], .lst (l.map encRow)])) :
    ∀ (n : Nat) (ws fd : List Row) (x3 x4 x5 x6 x7 : Option AV), mu ws < n → (fd ++ ws.flatMap sub).Perm (rowsT t) →
      whA (aB (aOp (rEqA true) (aVar 1) (aLst false aNil))) (walkBody sp_inner) n D [v0, some (.ref S.length), some (.ref (S.length + 1)), x3, x4, x5, x6, x7] (S ++ [.lst (ws.map encRow), .lst (fd.map encRow)])
  | 0, ws, fd, _, _, _, _, _, h, _ => absurd h (Nat.not_lt_zero _)
  | n + 1, ws, fd, x3, x4, x5, x6, x7, h, hp => by
    have zl : sizeLine = 2 ^ 24 := rfl
    have hall : ∀ w ∈ ws, okT w.2.2 ∧ w.1.length ≤ 100 := fun w hw => by
      have m : w ∈ rowsT t := hp.mem_iff.mp (List.mem_append_right _ (List.mem_flatMap.mpr ⟨w, hw, sub_self w⟩))
      have := row_len t w m
      have := ft.dp
      exact ⟨okT_at t ft.ok w m, by omega⟩
    have htot : fd.length + mu ws = sizeT t := by
      have := hp.length_eq
      rw [List.length_append, rows_len] at this
      exact this
    have hsz := ft.sz
    have hwl := mu_len ws
    refine ⟨zl0, ?_⟩
    dsimp only [aNew]
    refine eqNil_i (xs := ws.map encRow) (show (match (S ++ [Cell.lst (ws.map encRow), Cell.lst (fd.map encRow)])[S.length]? with
      | some (.lst xs) => AV.fl xs
      | _ => AV.ref S.length) = _ by rw [get2a]) (fun y hy => ?_) ?_
    · obtain ⟨w, hw, rfl⟩ := List.mem_map.mp hy
      exact okD_row (hall w hw).1
    · by_cases he : ws = []
      · subst he
        rw [List.flatMap_nil, List.append_nil] at hp
        exact fin fd _ _ _ _ _ hp
      · obtain ⟨pre, w, rfl⟩ : ∃ pre w, ws = pre ++ [w] := ⟨ws.dropLast, ws.getLast he, (List.dropLast_concat_getLast he).symm⟩
        have hne : (((pre ++ [w]).map encRow).isEmpty) = false := by simp
        rw [hne]
        have hw := hall w (by simp)
        have hmu : mu (pre ++ [w]) = mu pre + sizeT w.2.2 := by
          rw [mu_app]
          congr 1
          unfold mu
          rw [List.flatMap_cons, List.flatMap_nil, List.append_nil, sub_len]
        have hk := mu_kids w
        have hkl := mu_len (((inn w.2.2).zipIdx).map (kid w))
        rw [List.length_map, List.length_zipIdx] at hkl
        show aMtL (rMutA fPop) (aVar 1) aNil [v0, some (.ref S.length), some (.ref (S.length + 1)), x3, x4, x5, x6, x7] _ _
        refine mtVar_i rfl (asL_ref (get2a _ _ _)) ?_
        dsimp only [aNil]
        refine rMut_i (z := encRow w) (zs := pre.map encRow) (get2a _ _ _) ?_ ?_ ?_
        · unfold fPop
          rw [List.map_append, List.map_cons, List.map_nil, List.getLast?_append]
          simp
        · rw [List.length_map]
          rw [List.length_append] at hwl
          omega
        · rw [set2a]
          show aMtL (rMutA fAppend) (aVar 2) (aCons (aTup (aCons (aVar 3) (aCons (aVar 4) (aCons (aVar 5) aNil)))) aNil) [v0, some (.ref S.length), some (.ref (S.length + 1)), some (encPl w.1), some (.int w.2.1), some (enc w.2.2), x6, x7] _ _
          refine app_i rfl (get2b _ _ _) ⟨zl3, appM_i (get2b _ _ _) ?_ ?_⟩
          · rw [List.length_map]
            omega
          · rw [set2b]
            refine ⟨w.2.2, rfl, ?_⟩
            refine kids_loop (w := w) (rest := pre) hw.2 (by rw [List.length_append] at hwl; omega) fun z6 z7 => ?_
            have ih := walk_while ft fin n (pre ++ ((inn w.2.2).zipIdx).map (kid w)) (fd ++ [w]) (some (encPl w.1)) (some (.int w.2.1)) (some (enc w.2.2)) z6 z7 (by rw [mu_app]; omega) (by
              refine List.Perm.trans ?_ hp
              rw [List.flatMap_append, List.flatMap_append, List.flatMap_cons, List.flatMap_nil, List.append_nil, sub_eq w, List.append_assoc]
              refine List.Perm.append_left fd ?_
              show ([w] ++ (pre.flatMap sub ++ _)).Perm _
              rw [← List.append_assoc]
              refine ((List.perm_append_comm (l₁ := [w]) (l₂ := pre.flatMap sub)).append_right _).trans ?_
              rw [List.append_assoc]
              exact List.Perm.refl _)
            have e : (fd ++ [w]).map encRow = fd.map encRow ++ [AV.tup [encPl w.1, .int w.2.1, enc w.2.2]] := by rw [List.map_append]; rfl
            rw [e] at ih
            exact ih
def sp_walked : SpA := fun xs S Q => ∃ t, xs = [enc t] ∧ Fit t ∧ Q (.fl ((rowsT t).map encRow)) S
theorem wp_walked (xs : List AV) (S : Sto) (Q : AQ) (h : sp_walked xs S Q) : b__law_walked sp_inner sp_first (D0 S Q) (startA 8 xs) S := by
  obtain ⟨t, rfl, ft, h⟩ := h
  have go : aWhile (aB (aOp (rEqA true) (aVar 1) (aLst false aNil))) (walkBody sp_inner) { nx := aRet (aSortK sp_first (aVar 2)) (D0 S Q), rt := retQ S Q } [some (enc t), some (.ref S.length), some (.ref (S.length + 1)), none, none, none, none, none] (S ++ [.lst [encRow ([], 0, t)], .lst []]) := by
    refine ⟨mu [([], 0, t)] + 1, walk_while (t := t) ft (fun l y3 y4 y5 y6 y7 hl => ?_) _ [([], 0, t)] [] none none none none none (Nat.lt_succ_self _) ?_⟩
    · dsimp only [aRet, aSortK]
      refine var_i rfl ⟨l.map encRow, keyRow, asL_ref (get2b _ _ _), fun y hy => ?_, keys_rows l, ?_⟩
      · obtain ⟨r, _, rfl⟩ := List.mem_map.mp hy
        exact ⟨_, _, rfl, rfl, rfl⟩
      · rw [sort_rows hl]
        refine ret_dat (noRef_ok _ (okD_fl fun y hy => ?_)) h
        obtain ⟨r, hr, rfl⟩ := List.mem_map.mp hy
        exact okD_row (okT_at t ft.ok r hr)
    · rw [List.nil_append, List.flatMap_cons, List.flatMap_nil, List.append_nil, sub_root]
  have e1 : (S ++ [Cell.lst [encRow ([], 0, t)]]).length = S.length + 1 := by simp
  have e2 : S ++ [Cell.lst [encRow ([], 0, t)], .lst []] = (S ++ [Cell.lst [encRow ([], 0, t)]]) ++ [.lst []] := by simp
  rw [e2, ← e1] at go
  exact ⟨zl0, zl3, zl1, zl0, go⟩
end HA

/-! The law of places: what is asked. -/
namespace HA
open PySem PySem.Spec PyProof.Rows L2 PySem.W
theorem isi_yes {x : AV} {a : String} {S : Sto} {Q : AQ} (hx : tyN S x = some a) (k : kitB a a = some true) (q : Q (.bl true) S) : rIsiA [x, .raw (.ty a)] S Q := by
  unfold rIsiA
  dsimp only
  rw [hx]
  have e : isB a a = true := by simp [isB]
  dsimp only
  rw [e]
  exact ⟨k, q⟩
def sp_num : SpA := fun xs S Q => ∃ i : Int, xs = [.int i] ∧ Q (.bl true) S
theorem kit_int : kitB "int" "int" = some true := by decide +kernel
theorem kit_list : kitB "list" "list" = some true := by decide +kernel
theorem kit_tuple : kitB "tuple" "tuple" = some true := by decide +kernel
theorem kit_ib : kitB "int" "bool" = some false ∧ isB "int" "bool" = false := by decide +kernel
theorem wp_num (xs : List AV) (S : Sto) (Q : AQ) (h : sp_num xs S Q) : b__law_number (D0 S Q) (startA 1 xs) S := by
  obtain ⟨i, rfl, h⟩ := h
  have go2 : rIsiA [.int i, .raw (.ty "bool")] S fun x S1 => match x with
      | .bl b => retQ S Q (.bl (!b)) S1
      | _ => False := by
    refine ⟨kit_ib.1.trans (by rw [kit_ib.2]), ?_⟩
    dsimp only
    rw [kit_ib.2]
    exact .inl h
  have go1 : rIsiA [.int i, .raw (.ty "int")] S fun x S1 => match x with
      | .bl true => rIsiA [.int i, .raw (.ty "bool")] S1 fun x S1 => match x with
        | .bl b => retQ S Q (.bl (!b)) S1
        | _ => False
      | .bl false => retQ S Q (.bl false) S1
      | _ => False := isi_yes rfl kit_int go2
  exact go1
theorem bls_true {α : Type} : ∀ l : List α, bls? (l.map fun _ => AV.bl true) = some (l.map fun _ => true)
  | [] => rfl
  | a :: l => by
    have h := bls_map (l.map fun _ : α => true)
    rw [List.map_map] at h
    show (match bls? (l.map fun _ => AV.bl true) with
      | some r => some (true :: r)
      | none => none) = _
    rw [bls_true l]
    rfl
theorem all_i {α : Type} {l : List α} {S : Sto} {Q : AQ} (q : Q (.bl true) S) : rAllA [.fl ([] ++ l.map fun _ => AV.bl true)] S Q := by
  refine rList1_i (xs := l.map fun _ => AV.bl true) rfl (bls_true l) ?_
  have e : (l.map fun _ => true).all id = true := by simp
  rw [e]
  exact q
theorem eqSame_i {neg : Bool} {x y a : AV} {S : Sto} {Q : AQ} (hx : unref S x = a) (hy : unref S y = a) (k : okD a = true) (hd : dpA a ≤ 900) (q : Q (.bl (neg ^^ true)) S) : rEqA neg x y S Q := by
  refine rEqA_i hx hy k k ?_ ?_
  · unfold maxDep
    have : (dat a).depth ≤ 900 := hd
    omega
  · rw [eqv_refl a k]
    exact q
theorem unref_lst {S : Sto} {n : Nat} {xs : List AV} (h : S[n]? = some (.lst xs)) : unref S (.ref n) = .fl xs := by
  show (match S[n]? with
    | some (.lst xs) => AV.fl xs
    | _ => .ref n) = _
  rw [h]
abbrev plsA (t : Tm) : AV := .fl ((placesT t).map encPl)
theorem okD_pls (t : Tm) : okD (plsA t) = true := okD_fl fun y hy => by
  obtain ⟨p, _, rfl⟩ := List.mem_map.mp hy
  exact okD_pl p
theorem dp_pls (t : Tm) : dpA (plsA t) ≤ 900 := by
  have : dpA (plsA t) ≤ 1 + 1 := dp_fl fun y hy => by
    obtain ⟨p, _, rfl⟩ := List.mem_map.mp hy
    exact dp_pl p
  omega
/-- [row[0] for row in rows] -/
theorem firsts_i {t : Tm} {ρ : AEnv} {S : Sto} {Q : AQ} (hr : ρ[1]? = some (some (.fl ((rowsT t).map encRow)))) (hl : 10 < ρ.length) (q : Q (plsA t) S) : aComp (aIter (aVar 1)) (gNm 10) aYes (aOp rIxA (aVar 10) (aC (.int 0))) [10] ρ S Q := by
  unfold aComp aIter
  refine var_i hr ?_
  refine compA_map (l := rowsT t) (e := encRow) (r := fun r => encPl r.1) rfl trivial (fun r _ Q' q' => ?_) ?_
  · show aOp rIxA (aVar 10) (aC (.int 0)) (((wipeA ρ [10])).set 10 (some (encRow r))) S _
    unfold aOp
    refine var_i (x := encRow r) ?_ q'
    show ((ρ.set 10 none).set 10 (some (encRow r)))[10]? = _
    rw [List.set_set, List.getElem?_set_self hl]
  · rw [List.nil_append]
    have e : plsA t = .fl ((rowsT t).map fun r => encPl r.1) := by
      unfold plsA placesT
      rw [List.map_map]
      rfl
    rw [e] at q
    exact q
def sp_right : SpA := fun xs S Q => ∃ (t : Tm) (c : Int), xs = [enc t, .fl ((rowsT t).map encRow), .int c] ∧ Fit t ∧ Q (.bl true) S
/-- the places beyond -/
def beyond (t : Tm) (p : Pl) (x : Tm) (c : Int) : List Pl := [p ++ [((inn x).length : Int) + c.fmod (10 ^ (20 : Int).toNat)], p ++ [-1 - c.fmod 4], p ++ [((inn x).length : Int), 0], -1 :: p]
theorem beyond_none {t : Tm} {r : Row} (h : r ∈ rowsT t) (c : Int) : ∀ p ∈ beyond t r.1 r.2.2 c, atT t p = none := by
  have c20 := fmod_in (a := c) (m := 10 ^ (20 : Int).toNat) (by decide)
  have c4 := fmod_in (a := c) (m := 4) (by decide)
  have a := atT_row t r h
  intro p hp
  unfold beyond at hp
  rcases List.mem_cons.mp hp with rfl | hp
  · rw [atT_app, a]
    dsimp only
    rw [atT_beyond (.inr (Int.le_add_of_nonneg_right c20.1))]
  · rcases List.mem_cons.mp hp with rfl | hp
    · rw [atT_app, a]
      dsimp only
      rw [atT_beyond (by omega)]
    · rcases List.mem_cons.mp hp with rfl | hp
      · rw [atT_app, a]
        dsimp only
        rw [atT_beyond (.inr (Int.le_refl _))]
      · rcases List.mem_cons.mp hp with rfl | hp
        · exact atT_beyond (by omega)
        · cases hp
def askTest (sp_n : SpA) : ATT := aOrT (aNotT (aB (aCall rIsiA (aCons (aVar 7) (aCons (aC (.raw (.ty "tuple"))) aNil))))) (aOrT (aB (aOp (rEqA true) (aVar 7) (aTup (aCons (aVar 5) (aCons (aVar 6) aNil))))) (aNotT (aB (aCall sp_n (aCons (aOp rIxA (aVar 7) (aC (.int 0))) aNil)))))
theorem ask_test {v0 v1 v2 v3 v4 v8 v9 v10 v11 : Option AV} {b : Int} {x : AV} {S : Sto} {Q : Bool → Sto → Prop} (hok : okD (.tup [.int b, x]) = true) (hdx : dpA (.tup [.int b, x]) ≤ 900) (q : Q false S) :
    askTest sp_num [v0, v1, v2, v3, v4, some (.int b), some x, some (.tup [.int b, x]), v8, v9, v10, v11] S Q := by
  dsimp only [askTest, aOrT, aNotT, aB, aCall, aCons, aNil, aC, aVar, aOp, aTup, List.getElem?_cons_succ, List.getElem?_cons_zero]
  refine isi_yes rfl kit_tuple ⟨zl2, ?_⟩
  refine eqSame_i rfl rfl hok hdx ?_
  exact ⟨_, rfl, q⟩
def beyB (sp_at : SpA) : ATS := aIf (aB (aOp (rIsA true) (aCall sp_at (aCons (aVar 0) (aCons (aVar 9) aNil))) (aC .non))) (aRet (aC (.bl false))) aNext
theorem bey_loop {t : Tm} {v1 v2 v3 v4 v5 v6 v7 v8 x9 v10 v11 : Option AV} {S : Sto} {D : AEnds} {l : List Pl} (h : ∀ p ∈ l, atT t p = none) (fin : ∀ y9, D.nx [some (enc t), v1, v2, v3, v4, v5, v6, v7, v8, y9, v10, v11] S) :
    forA (fun _ => True) (gNm 9) (beyB sp_at) (l.map encPl) D [some (enc t), v1, v2, v3, v4, v5, v6, v7, v8, x9, v10, v11] S := by
  refine forA_inv (l := l) (done := []) (e := encPl) (fun dn ρ S' => ∃ y9, ρ = [some (enc t), v1, v2, v3, v4, v5, v6, v7, v8, y9, v10, v11] ∧ S' = S) (fun _ _ _ _ => trivial) rfl ⟨x9, rfl, rfl⟩ ?_ ?_
  · rintro dn p r ρ S' hl ⟨y9, rfl, rfl⟩ nx hnx
    have hp : p ∈ l := by rw [show l = dn ++ p :: r from hl]; simp
    refine ⟨t, p, rfl, ?_⟩
    rw [h p hp]
    exact ⟨rfl, hnx _ _ ⟨some (encPl p), rfl, rfl⟩⟩
  · rintro ρ S' ⟨y9, rfl, rfl⟩
    exact fin y9
def askBody (sp_at sp_in sp_n : SpA) : ATS := (aSeq (aSet 7 (aCall sp_at (aCons (aVar 0) (aCons (aVar 4) aNil)))) (aSeq (aIf (askTest sp_n) (aRet (aC (.bl false))) aNext) (aSeq (aSet 8 (aCall rLenA (aCons (aCall sp_in (aCons (aVar 6) aNil)) aNil))) (aFor (aIter (aLst false (aCons (aOp rAddA (aVar 4) (aTup (aCons (aOp rAddA (aVar 8) (aOp rModA (aVar 2) (aOp rPowA (aC (.int 10)) (aC (.int 20))))) aNil))) (aCons (aOp rAddA (aVar 4) (aTup (aCons (aOp rSubA (aUn rNegA (aC (.int 1))) (aOp rModA (aVar 2) (aC (.int 4)))) aNil))) (aCons (aOp rAddA (aVar 4) (aTup (aCons (aVar 8) (aCons (aC (.int 0)) aNil)))) (aCons (aOp rAddA (aTup (aCons (aUn rNegA (aC (.int 1))) aNil)) (aVar 4)) aNil)))))) (gNm 9) (beyB sp_at)))))
theorem zl4 : 4 ≤ sizeLine := by decide
theorem p20 : (10 : Int) ^ (20 : Int).toNat ≠ 0 := by decide
theorem ask_row {t : Tm} (ft : Fit t) {r : Row} (hr : r ∈ rowsT t) {c : Int} {S : Sto} {D : AEnds} {v1 v3 x7 x8 x9 x10 x11 : Option AV}
    (fin : ∀ y7 y8 y9, D.nx [some (enc t), v1, some (.int c), v3, some (encPl r.1), some (.int r.2.1), some (enc r.2.2), y7, y8, y9, x10, x11] S) : askBody sp_at sp_inner sp_num D [some (enc t), v1, some (.int c), v3, some (encPl r.1), some (.int r.2.1), some (enc r.2.2), x7, x8, x9, x10, x11] S := by
  have zl : sizeLine = 2 ^ 24 := rfl
  have ok := okT_at t ft.ok r hr
  have hlen := row_len t r hr
  have hdp := ft.dp
  have hok : okD (.tup [.int (r.2.1 : Int), enc r.2.2]) = true := okD_tup fun y hy => by
    rcases List.mem_cons.mp hy with rfl | hy
    · rfl
    · rcases List.mem_cons.mp hy with rfl | hy
      · exact okD_enc _ ok
      · cases hy
  have hdx : dpA (.tup [.int (r.2.1 : Int), enc r.2.2]) ≤ 900 := by
    have d1 := dp_enc r.2.2
    have d2 := row_dep t r hr
    have : dpA (.tup [.int (r.2.1 : Int), enc r.2.2]) ≤ 90 + 1 := dp_tup fun y hy => by
      rcases List.mem_cons.mp hy with rfl | hy
      · rw [dp_int]; omega
      · rcases List.mem_cons.mp hy with rfl | hy
        · omega
        · cases hy
    omega
  have lp : (r.1.map AV.int).length ≤ 100 := by rw [List.length_map]; omega
  refine ⟨t, r.1, rfl, ?_⟩
  rw [atT_row t r hr]
  refine ask_test hok hdx ⟨r.2.2, rfl, ?_⟩
  have el : (((encPs (inn r.2.2)).length : Nat) : Int) = ((inn r.2.2).length : Int) := by rw [encPs_map, List.length_map]
  have lb := bey_loop (t := t) (v1 := v1) (v2 := some (.int c)) (v3 := v3) (v4 := some (encPl r.1)) (v5 := some (.int r.2.1)) (v6 := some (enc r.2.2)) (v7 := some (.tup [.int r.2.1, enc r.2.2])) (v8 := some (.int ((inn r.2.2).length : Int))) (x9 := x9) (v10 := x10) (v11 := x11) (S := S) (D := D) (beyond_none hr c) fun y9 => fin _ _ y9
  rw [← el] at lb
  have eb : (beyond t r.1 r.2.2 c).map encPl = [.tup (r.1.map AV.int ++ [.int (((encPs (inn r.2.2)).length : Nat) + c.fmod (10 ^ (20 : Int).toNat))]), .tup (r.1.map AV.int ++ [.int (-1 - c.fmod 4)]), .tup (r.1.map AV.int ++ [.int (((encPs (inn r.2.2)).length : Nat) : Int), .int 0]), .tup (.int (-1) :: r.1.map AV.int)] := by
    rw [el]
    unfold beyond encPl
    simp only [List.map_cons, List.map_nil, List.map_append]
  rw [eb] at lb
  exact ⟨⟨by decide, by decide, by decide⟩, p20, zl1, by show _ + 1 ≤ _; omega, (by decide : (4 : Int) ≠ 0), trivial, zl1, by show _ + 1 ≤ _; omega, zl2, by show _ + 2 ≤ _; omega, zl1, by show 1 + _ ≤ _; omega, zl4, lb⟩
theorem comp_const {α : Type} {GA : Sto → Prop} {g : ATG} {tt : ATT} {te : ATE} {ρw : AEnv} {e : α → AV} {l : List α} {xs : List AV} {S : Sto} {Q : List AV → Sto → Prop} (hx : xs = l.map e) (hg : GA S) (h : ∀ a ∈ l, ∀ Q', Q' (some (.bl true)) S → compStep g tt te ρw (e a) S Q') (q : Q ([] ++ l.map fun _ => AV.bl true) S) :
    compA GA g tt te ρw xs [] S Q := compA_map (r := fun _ => .bl true) hx hg h q
def kindTest (sp_n : SpA) : ATE := aCall rAllA (aCons (aComp (aIter (aVar 3)) (gNm 4) aYes (aAndV (aCall rIsiA (aCons (aVar 4) (aCons (aC (.raw (.ty "tuple"))) aNil))) (aCall rAllA (aCons (aComp (aIter (aVar 4)) (gNm 11) aYes (aCall sp_n (aCons (aVar 11) aNil)) [11]) aNil))) [4]) aNil)
theorem kind_test {v0 v1 v2 v4 v5 v6 v7 v8 v9 v10 v11 : Option AV} {ps : List Pl} {n : Nat} {S : Sto} {Q : AQ} (hn : S[n]? = some (.lst (ps.map encPl))) (q : Q (.bl true) S) : kindTest sp_num [v0, v1, v2, some (.ref n), v4, v5, v6, v7, v8, v9, v10, v11] S Q := by
  have go : aComp (aIter (aVar 3)) (gNm 4) aYes (aAndV (aCall rIsiA (aCons (aVar 4) (aCons (aC (.raw (.ty "tuple"))) aNil))) (aCall rAllA (aCons (aComp (aIter (aVar 4)) (gNm 11) aYes (aCall sp_num (aCons (aVar 11) aNil)) [11]) aNil))) [4] [v0, v1, v2, some (.ref n), v4, v5, v6, v7, v8, v9, v10, v11] S fun x S1 => rAllA [x] S1 Q := by
    unfold aComp aIter
    refine var_i rfl ?_
    dsimp only
    rw [seqA_ref hn]
    refine comp_const (l := ps) rfl hn (fun p _ Q' q' => ?_) (all_i q)
    have two : aComp (aIter (aVar 4)) (gNm 11) aYes (aCall sp_num (aCons (aVar 11) aNil)) [11] [v0, v1, v2, some (.ref n), some (encPl p), v5, v6, v7, v8, v9, v10, v11] S fun x S1 => rAllA [x] S1 fun y S2 => Q' (some y) S2 :=
      comp_const (l := p) rfl trivial (fun k _ Q2 q2 => ⟨k, rfl, q2⟩) (all_i q')
    have one : rIsiA [encPl p, .raw (.ty "tuple")] S fun x S1 => match x with
        | .bl true => aComp (aIter (aVar 4)) (gNm 11) aYes (aCall sp_num (aCons (aVar 11) aNil)) [11] [v0, v1, v2, some (.ref n), some (encPl p), v5, v6, v7, v8, v9, v10, v11] S1 fun x S1 => rAllA [x] S1 fun y S2 => Q' (some y) S2
        | .bl false => Q' (some (.bl false)) S1
        | _ => False := isi_yes rfl kit_tuple two
    exact one
  exact go
def listTest : ATT := aOrT (aNotT (aB (aCall rIsiA (aCons (aVar 3) (aCons (aC (.raw (.ty "list"))) aNil))))) (aB (aOp (rEqA true) (aVar 3) (aComp (aIter (aVar 1)) (gNm 10) aYes (aOp rIxA (aVar 10) (aC (.int 0))) [10])))
theorem list_test {t : Tm} {v0 v2 v4 v5 v6 v7 v8 v9 v10 v11 : Option AV} {n : Nat} {S : Sto} {Q : Bool → Sto → Prop} (hn : S[n]? = some (.lst ((placesT t).map encPl))) (q : Q false S) : listTest [v0, some (.fl ((rowsT t).map encRow)), v2, some (.ref n), v4, v5, v6, v7, v8, v9, v10, v11] S Q := by
  dsimp only [listTest, aOrT, aNotT, aB, aCall, aCons, aNil, aC, aOp]
  refine var_i rfl (isi_yes (show (match S[n]? with
    | some (.lst _) => some "list"
    | some (.dct _ _) => some "dict"
    | _ => none) = some "list" by rw [hn]) kit_list ?_)
  refine var_i rfl ?_
  refine firsts_i (t := t) rfl (by simp) ?_
  exact eqSame_i (unref_lst hn) rfl (okD_pls t) (dp_pls t) q
theorem list_seq {t : Tm} {v0 v2 v4 v5 v6 v7 v8 v9 v10 v11 : Option AV} {n : Nat} {S : Sto} {D : AEnds} {rest : ATS} (hn : S[n]? = some (.lst ((placesT t).map encPl))) (q : rest D [v0, some (.fl ((rowsT t).map encRow)), v2, some (.ref n), v4, v5, v6, v7, v8, v9, v10, v11] S) :
    aSeq (aIf listTest (aRet (aC (.bl false))) aNext) rest D [v0, some (.fl ((rowsT t).map encRow)), v2, some (.ref n), v4, v5, v6, v7, v8, v9, v10, v11] S := list_test (t := t) (Q := fun b S1 => match b with
      | true => aRet (aC (.bl false)) { nx := rest D, rt := D.rt, bk := D.bk, ct := D.ct } [v0, some (.fl ((rowsT t).map encRow)), v2, some (.ref n), v4, v5, v6, v7, v8, v9, v10, v11] S1
      | false => rest D [v0, some (.fl ((rowsT t).map encRow)), v2, some (.ref n), v4, v5, v6, v7, v8, v9, v10, v11] S1) hn q
theorem kind_seq {v0 v1 v2 v4 v5 v6 v7 v8 v9 v10 v11 : Option AV} {ps : List Pl} {n : Nat} {S : Sto} {D : AEnds} {rest : ATS} (hn : S[n]? = some (.lst (ps.map encPl))) (q : rest D [v0, v1, v2, some (.ref n), v4, v5, v6, v7, v8, v9, v10, v11] S) :
    aSeq (aIf (aNotT (aB (kindTest sp_num))) (aRet (aC (.bl false))) aNext) rest D [v0, v1, v2, some (.ref n), v4, v5, v6, v7, v8, v9, v10, v11] S := kind_test (Q := fun x S1 => match x with
      | .bl b => (match !b with
        | true => aRet (aC (.bl false)) { nx := rest D, rt := D.rt, bk := D.bk, ct := D.ct } [v0, v1, v2, some (.ref n), v4, v5, v6, v7, v8, v9, v10, v11] S1
        | false => rest D [v0, v1, v2, some (.ref n), v4, v5, v6, v7, v8, v9, v10, v11] S1)
      | _ => False) hn q
theorem wp_right (xs : List AV) (S : Sto) (Q : AQ) (h : sp_right xs S Q) : b__law_right (sp_pl 31) sp_num sp_at sp_inner (D0 S Q) (startA 12 xs) S := by
  obtain ⟨t, c, rfl, ft, h⟩ := h
  have zl : sizeLine = 2 ^ 24 := rfl
  have f1 := ft.dp
  have f2 := ft.sz
  refine ⟨t, rfl, by omega, by omega, by omega, ?_⟩
  have part : aSeq (aFor (aIter (aVar 1)) (gTp (gsCons (gNm 4) (gsCons (gNm 5) (gsCons (gNm 6) gsNil)))) (askBody sp_at sp_inner sp_num)) (aSeq (aDrop (aMtL (rMutA fAppend) (aVar 3) (aCons (aTup (aCons (aC (.int 9)) aNil)) aNil))) (aSeq (aSetIx (aTup (aCons (aC (.int 8)) aNil)) (aVar 3) (aC (.int 0)) rSetLA) (aRet (aOp (rEqA false) (aCut (aCall (sp_pl 31) (aCons (aVar 0) aNil))) (aComp (aIter (aVar 1)) (gNm 10) aYes (aOp rIxA (aVar 10) (aC (.int 0))) [10])))))
      (D0 S Q) [some (enc t), some (.fl ((rowsT t).map encRow)), some (.int c), some (.ref S.length), none, none, none, none, none, none, none, none] (S ++ [.lst ((placesT t).map encPl)]) := by
    refine forA_inv (l := rowsT t) (done := []) (e := encRow) (fun dn ρ S' => ∃ y4 y5 y6 y7 y8 y9, ρ = [some (enc t), some (.fl ((rowsT t).map encRow)), some (.int c), some (.ref S.length), y4, y5, y6, y7, y8, y9, none, none] ∧ S' = S ++ [.lst ((placesT t).map encPl)]) (fun _ _ _ _ => trivial) rfl ⟨none, none, none, none, none, none, rfl, rfl⟩ ?_ ?_
    · rintro dn r rr ρ S' hl ⟨y4, y5, y6, y7, y8, y9, rfl, rfl⟩ nx hnx
      have hr : r ∈ rowsT t := by rw [show rowsT t = dn ++ r :: rr from hl]; simp
      exact ask_row ft hr fun z7 z8 z9 => hnx _ _ ⟨_, _, _, _, _, _, rfl, rfl⟩
    · rintro ρ S' ⟨y4, y5, y6, y7, y8, y9, rfl, rfl⟩
      show aMtL (rMutA fAppend) (aVar 3) (aCons (aTup (aCons (aC (.int 9)) aNil)) aNil) [some (enc t), some (.fl ((rowsT t).map encRow)), some (.int c), some (.ref S.length), y4, y5, y6, y7, y8, y9, none, none] _ _
      refine app_i rfl (sto_new _ _) ⟨zl1, appM_i (sto_new _ _) (by rw [List.length_map, List.length_map, rows_len]; omega) ?_⟩
      rw [snoc_set]
      have s1 : rSetLA (.ref S.length) (.int 0) (.tup [.int 8]) (S ++ [.lst ((placesT t).map encPl ++ [.tup [.int 9]])]) (fun S4 => aRet (aOp (rEqA false) (aCut (aCall (sp_pl 31) (aCons (aVar 0) aNil))) (aComp (aIter (aVar 1)) (gNm 10) aYes (aOp rIxA (aVar 10) (aC (.int 0))) [10])) (D0 S Q) [some (enc t), some (.fl ((rowsT t).map encRow)), some (.int c), some (.ref S.length), y4, y5, y6, y7, y8, y9, none, none] S4) := by
        refine rSetL_i (j := 0) (sto_new _ _) (by unfold ixN; simp) ?_
        rw [snoc_set]
        refine ⟨t, rfl, by omega, by omega, by omega, ?_⟩
        refine ret_cut rfl (.lst (Nat.le_refl _) (sto_new _ _) (frzs_same fun x hx => ?_)) ?_
        · obtain ⟨q, _, rfl⟩ := List.mem_map.mp hx
          exact noRef_ok _ (okD_pl q)
        · refine firsts_i (t := t) rfl (by simp) ?_
          exact eqSame_i (a := plsA t) rfl rfl (okD_pls t) (dp_pls t) (ret_dat rfl h)
      exact ⟨zl1, s1⟩
  exact list_seq (t := t) (sto_new _ _) (kind_seq (sto_new _ _) part)
end HA

/-! The law of places. -/
namespace HA
open PySem PySem.Spec PyProof.Rows L2 PySem.W
def lawTest (sp_n sp_r : SpA) : ATT := aOrT (aNotT (aB (aCall sp_n (aCons (aVar 5) aNil)))) (aOrT (aB (aOp (rEqA true) (aVar 5) (aCall rLenA (aCons (aVar 4) aNil)))) (aNotT (aB (aCall sp_r (aCons (aVar 3) (aCons (aVar 4) (aCons (aVar 2) aNil)))))))
theorem law_test {v0 v1 : Option AV} {u : Tm} (fu : Fit u) {seed : Int} {S : Sto} {Q : Bool → Sto → Prop} (q : Q false S) : lawTest sp_num sp_right [v0, v1, some (.int seed), some (enc u), some (.fl ((rowsT u).map encRow)), some (.int (sizeT u))] S Q := by
  dsimp only [lawTest, aOrT, aNotT, aB, aCall, aCons, aNil, aOp]
  refine var_i rfl ⟨_, rfl, ?_⟩
  refine var_i rfl ?_
  refine var_i rfl ?_
  have e : (((rowsT u).map encRow).length : Int) = (sizeT u : Int) := by rw [List.length_map, rows_len]
  have go : rEqA true (.int (sizeT u)) (.int (((rowsT u).map encRow).length : Int)) S fun x S1 => match x with
      | .bl b => (match b with
        | true => Q true S1
        | false => sp_right [enc u, .fl ((rowsT u).map encRow), .int seed] S1 fun x S1 => match x with
          | .bl b => Q (!b) S1
          | _ => False)
      | _ => False := by
    rw [e]
    exact eqSame_i (a := .int (sizeT u)) rfl rfl rfl (by rw [dp_int]; omega) ⟨u, seed, rfl, fu, q⟩
  exact go
def lawBody (sp_cell sp_mix sp_drawn sp_grown sp_walked sp_size sp_n sp_r : SpA) : ATS := aSeq (aSet 2 (aCall sp_cell (aCons (aVar 0) (aCons (aVar 1) aNil)))) (aSeq (aSet 3 (aCall sp_grown (aCons (aCall sp_drawn (aCons (aSl false (aVar 0) (aPart (aVar 1)) aNoPart) (aCons (aOp rModA (aCall sp_mix (aCons (aVar 2) (aCons (aC (.int 40)) aNil))) (aC (.int 4))) (aCons (aVar 2) aNil)))) (aCons (aCall sp_mix (aCons (aVar 2) (aCons (aC (.int 48)) aNil))) aNil)))) (aSeq (aSet 4 (aCall sp_walked (aCons (aVar 3) aNil))) (aSeq (aSet 5 (aCall sp_size (aCons (aVar 3) aNil))) (aIf (lawTest sp_n sp_r) (aRet (aC (.bl false))) aNext))))
theorem law_body {ns : List Int} {k : Int} (hk : 0 ≤ k) {y2 y3 y4 y5 : Option AV} {S : Sto} {D : AEnds} (fin : ∀ z2 z3 z4 z5, D.nx [some (.sl (ns.map AV.int)), some (.int k), z2, z3, z4, z5] S) :
    lawBody sp_cell sp_mix sp_drawn sp_grown sp_walked (sp_sz 31) sp_num sp_right D [some (.sl (ns.map AV.int)), some (.int k), y2, y3, y4, y5] S := by
  refine ⟨ns, k, rfl, hk, fun seed => ?_⟩
  refine ⟨seed, 40, rfl, by decide, by decide, fun r1 h1 _ => ⟨(by decide : (4 : Int) ≠ 0), ?_⟩⟩
  have c := fmod_in (a := r1) (m := 4) (by decide)
  obtain ⟨n, hn⟩ : ∃ n : Nat, r1.fmod 4 = n := ⟨(r1.fmod 4).toNat, by omega⟩
  refine ⟨cutA ns (some k) none, n, seed, ?_, by omega, fun t g => ?_⟩
  · show [AV.fl (cutA (ns.map AV.int) (some k) none), AV.int (r1.fmod 4), AV.int seed] = _
    rw [cutA_map, hn]
  refine ⟨seed, 48, rfl, by decide, by decide, fun r2 h2 _ => ⟨t, r2, rfl, h2, g, fun u fu => ?_⟩⟩
  refine ⟨u, rfl, fu, u, rfl, by have := fu.dp; omega, ?_⟩
  exact law_test (v0 := some (.sl (ns.map AV.int))) (v1 := some (.int k)) fu (fin (some (.int seed)) (some (enc u)) (some (.fl ((rowsT u).map encRow))) (some (.int (sizeT u))))
theorem rg6 : ∀ j : Nat, j < 64 → Builtin.Range.small 0 (j : Int) 6 = true ∧ Builtin.Range.rangeSize 0 (j : Int) 6 ≤ 100 ∧ 0 ≤ Builtin.Range.rangeSize 0 (j : Int) 6 := by decide +kernel
theorem rg6C {j : Int} (h0 : 0 ≤ j) (h1 : j < 64) : ∃ n, RgC 0 j 6 n ∧ n ≤ sizeLine := by
  obtain ⟨k, rfl⟩ : ∃ k : Nat, j = k := ⟨j.toNat, by omega⟩
  obtain ⟨a, b, b0⟩ := rg6 k (by omega)
  have zl : sizeLine = 2 ^ 24 := rfl
  exact ⟨(Builtin.Range.rangeSize 0 (k : Int) 6).toNat, ⟨by decide, by decide, a, by omega⟩, by omega⟩
theorem wp_law (xs : List AV) (S : Sto) (Q : AQ) (h : spLawA 63 xs S Q) : b_law sp_cell sp_mix sp_drawn sp_grown sp_walked (sp_sz 31) sp_num sp_right (D0 S Q) (startA 6 xs) S := by
  obtain ⟨ns, rfl, hl, h⟩ := h
  have loop : ∀ n, aSeq (fun D ρ S => forA (fun _ => True) (gNm 1) (lawBody sp_cell sp_mix sp_drawn sp_grown sp_walked (sp_sz 31) sp_num sp_right) (rgA 0 6 n) D ρ S) (aRet (aC (.bl true))) (D0 S Q) [some (.sl (ns.map AV.int)), none, none, none, none, none] S := fun n => by
    refine forA_inv (l := List.range n) (done := []) (e := fun i : Nat => .int (0 + (i : Int) * 6)) (fun dn ρ S' => ∃ y1 y2 y3 y4 y5, ρ = [some (.sl (ns.map AV.int)), y1, y2, y3, y4, y5] ∧ S' = S) (fun _ _ _ _ => trivial) rfl ⟨none, none, none, none, none, rfl, rfl⟩ ?_ ?_
    · rintro dn i r ρ S' hl ⟨y1, y2, y3, y4, y5, rfl, rfl⟩ nx hnx
      exact law_body (ns := ns) (k := 0 + (i : Int) * 6) (by omega) fun z2 z3 z4 z5 => hnx _ _ ⟨_, _, _, _, _, rfl, rfl⟩
    · rintro ρ S' ⟨y1, y2, y3, y4, y5, rfl, rfl⟩
      exact .inl (h _)
  obtain ⟨j, hj⟩ : ∃ j : Int, j = (if (if (63 : Int) < ((ns.map AV.int).length : Int) then (63 : Int) else ((ns.map AV.int).length : Int)) > 1 then (if (63 : Int) < ((ns.map AV.int).length : Int) then (63 : Int) else ((ns.map AV.int).length : Int)) else 1) := ⟨_, rfl⟩
  have hj2 : 0 ≤ j ∧ j < 64 := by
    rw [hj]
    split <;> split <;> omega
  obtain ⟨n, hn⟩ := rg6C hj2.1 hj2.2
  rw [hj] at hn
  exact ⟨n, hn, loop n⟩
end HA

/-! The end: a def of the text that stands behind the top; what it promises. -/
namespace HA
open PySem PySem.Spec PyProof.Rows L2
structure Dfn (K : PySem.W.Frag) (mg : Str → Option Value) (x : Str) (ps : List Str) (st : Stmt) : Prop where
  ex : ∃ f fd, mg x = some (.ref f) ∧ PySem.W.keepIn K (.ref f) = true ∧ Binds K fd ps [] ∧ Fun K x x st f fd
theorem dfn_mk {K : PySem.W.Frag} {h : Heap} {mg : Str → Option Value} {x : Str} {ps : List Str} {st : Stmt} {f : Addr} {od an : Option Addr} {sl : Array (Option Value)} {oc kV dc pm cd ct : Value} (X : K.In h) (G : h.Ns mainGlobals mg)
    (hb : ∀ (kV doc pm : Value) (an : Option Addr) (cdv ct : Value) (us : List Value), us.length = ps.length → bindArgs (PySem.W.fnOf x x (defArgs st) (defBody st) (defScope st) .none kV doc pm an cdv ct) ⟨us, []⟩ = pure (ps.zip us))
    (a : PySem.W.nsIn K mainGlobals x = some (some (.ref f))) (l : K.lookup f = some ⟨oc, od, .func (PySem.W.fnOf x x (defArgs st) (defBody st) (defScope st) .none kV dc pm an cd ct), sl⟩) (c : PySem.W.codeIn K cd x = true) (k : PySem.W.keepIn K (.ref f) = true) : Dfn K mg x ps st := by
  have F := fun_mk (st := st) l c k
  exact ⟨f, _, PySem.W.mg_of X G a, k, F.binds hb, F⟩
section
variable {P : Program} {w : World} {K : PySem.W.Frag} {mg : Str → Option Value} {base : Heap} {x : Str} {ps N : List Str} {st : Stmt} {k : Nat} {sp : SpA} {tb : ATS}
theorem Dfn.callee (D : Dfn K mg x ps st) (Sc : FnScope N ps (defScope st)) (hb : ∀ (f : Addr) (cdv : Value) (A : Around) (outer : List Env) (s : Shared) (H : Hp) (E : XK), Room k (A.deeper (envOfC x (defScope st) s.heap.objs.size f cdv)) → SSs (cxOf CX0 P w K mg base N x (defScope st) f cdv A outer s H E).nox (defBody st) tb)
    (len : ∀ xs S Q, sp xs S Q → xs.length = ps.length) (hw : ∀ xs S Q, sp xs S Q → tb { nx := fun _ S' => retQ S Q .non S', rt := retQ S Q } (startA N.length xs) S) : Callee P w K mg base x ps (k + 1) sp := by
  obtain ⟨f, fd, a, b, c, F⟩ := D.ex
  exact ⟨f, fd, a, b, c, fnA F Sc len (hb f) hw⟩
theorem Dfn.none (D : Dfn K mg x ps st) (h : ∀ xs S Q, ¬ sp xs S Q) : Callee P w K mg base x ps k sp := by
  obtain ⟨f, fd, a, b, c, F⟩ := D.ex
  exact ⟨f, fd, a, b, c, fn0 h⟩
end
/-- the law's end: its def, what it promises over every base -/
theorem law_end {l : PySem.W.OpenLaw} {w : World} {K : PySem.W.Frag} {mg : Str → Option Value} {fa : Addr} {st : Stmt} {x y : Str} {N : List Str} {k : Nat} {sp : SpA} {tb : ATS} (D : Dfn K mg x [y] st) (hfa : mg x = some (.ref fa)) (Sc : FnScope N [y] (defScope st))
    (hbind : ∀ (kV doc pm : Value) (an : Option Addr) (cdv ct : Value) (v : Value), bindArgs (PySem.W.fnOf x x (defArgs st) (defBody st) (defScope st) .none kV doc pm an cdv ct) ⟨[v], []⟩ = pure [(y, v)])
    (hb : ∀ base : Heap, K.In base → base.Ns mainGlobals mg → ∀ (f : Addr) (cdv : Value) (A : Around) (outer : List Env) (s : Shared) (H : Hp) (E : XK), Room k (A.deeper (envOfC x (defScope st) s.heap.objs.size f cdv)) → SSs (cxOf CX0 l.prog w K mg base N x (defScope st) f cdv A outer s H E).nox (defBody st) tb)
    (len : ∀ xs S Q, sp xs S Q → xs.length = 1) (hw : ∀ xs S Q, sp xs S Q → tb { nx := fun _ S' => retQ S Q .non S', rt := retQ S Q } (startA N.length xs) S) :
    ∃ fd : FuncData, (∀ (s : Shared) (v : Value), BindsTo s fd ⟨[v], []⟩ [(y, v)]) ∧ ∀ base : Heap, K.In base → base.Ns mainGlobals mg → FnOk l.prog w K mg base CX0 (k + 1) fa fd [y] (lSp K sp) := by
  obtain ⟨f, fd, a, b, c, G⟩ := D.ex
  rw [hfa] at a
  cases a
  obtain ⟨oc, od, kV, doc, pm, an, cdv, ct, osl, rfl, lk, hcd⟩ := id G.ex
  exact ⟨_, fun s v => .of_eq (hbind kV doc pm an cdv ct v), fun base h1 h2 => fnA G Sc len (hb base h1 h2 fa) hw⟩
/-- the goal that the head leaves -/
theorem walkA {l : PySem.W.OpenLaw} {n k : Nat} {q : Program} {loose : List Str} {XP : (Str → Option Value) → Heap → Prop} {YP : World → Heap → Prop} {d : DefRec} {K : Params → PySem.W.Frag} {x : Str} (hn : l.most = some n) (hn2 : n ≤ sizeLine) (hdf : d.params.defaults = []) (hr : Room k callerA)
    (hY : ∀ (w : World) (h : Heap), YP w h → (K w.params).In h)
    (F : ∀ (w : World) (mg : Str → Option Value) (fa : Addr) (h : Heap), (K w.params).In h → h.Ns mainGlobals mg → mg d.name = some (.ref fa) →
      ∃ fd : FuncData, (∀ (s : Shared) (u : Value), BindsTo s fd ⟨[u], []⟩ [(x, u)]) ∧ ∀ base : Heap, (K w.params).In base → base.Ns mainGlobals mg → FnOk l.prog w (K w.params) mg base CX0 k fa fd [x] (lSp (K w.params) (spLawA n))) :
    PySem.W.WalkO q loose XP YP l.row.toRowW d [] (fun f vs => PySem.call f vs) :=
  L2.walk_of (n := n) (k := k) (x := x) (CX := fun _ => CX0) (sp := fun w => lSp (K w.params) (spLawA n)) hn hn2 hdf hr hY F (fun w H a ns hl _ hS => law_start hl hn2 hS) fun _ _ _ _ _ z => z
end HA

namespace HA.K7
open PySem PySem.Spec PyProof.Rows L2
def b_changed (sp_changed : SpA) : ATS :=
  aSeq (aIf (aB (aOp (rEqA false) (aVar 1) (aTup aNil))) (aRet (aVar 2)) aNext) (aSeq (aSet 3 (aCall (rListA true) (aCons (aOp rIxA (aVar 0) (aC (.int 2))) aNil))) (aSeq (aSet 4 (aOp rIxA (aVar 1) (aC (.int 0)))) (aSeq (aIf (aB (aOp (rEqA false) (aOp rIxA (aVar 0) (aC (.int 0))) (aC (.str "hole")))) (aSetIx (aCall sp_changed (aCons (aOp rIxA (aVar 3) (aVar 4)) (aCons (aSl false (aVar 1) (aPart (aC (.int 1))) aNoPart) (aCons (aVar 2) aNil)))) (aVar 3) (aVar 4) rSetLA) (aSeq (aAsg (aOp rIxA (aVar 3) (aVar 4)) (gTp (gsCons (gNm 5) (gsCons (gNm 6) gsNil)))) (aSetIx (aTup (aCons (aVar 5) (aCons (aCall sp_changed (aCons (aVar 6) (aCons (aSl false (aVar 1) (aPart (aC (.int 1))) aNoPart) (aCons (aVar 2) aNil)))) aNil))) (aVar 3) (aVar 4) rSetLA))) (aRet (aTup (aCons (aOp rIxA (aVar 0) (aC (.int 0))) (aCons (aOp rIxA (aVar 0) (aC (.int 1))) (aCons (aCall rTupA (aCons (aVar 3) aNil)) aNil))))))))

def b__law_rows (sp__law_inner : SpA) : ATS :=
  aSeq (aSet 1 aDNew) (aSeq (aSet 2 (aLst true (aCons (aTup (aCons (aVar 0) (aCons (aC (.int 0)) (aCons (aTup aNil) aNil)))) aNil))) (aSeq (aWhile (aB (aOp (rEqA true) (aVar 2) (aLst false aNil))) (aSeq (aAsg (aMtL (rMutA fPop) (aVar 2) aNil) (gTp (gsCons (gNm 4) (gsCons (gNm 5) (gsCons (gNm 6) gsNil))))) (aSeq (aSet 3 (aCall rTupA (aCons (aComp (aIter (aCall sp__law_inner (aCons (aVar 4) aNil))) (gTp (gsCons (gNm 9) (gsCons (gNm 10) gsNil))) aYes (aVar 9) [9, 10]) aNil))) (aSeq (aDPut (aTup (aCons (aOp rIxA (aVar 4) (aC (.int 0))) (aCons (aOp rIxA (aVar 4) (aC (.int 1))) (aCons (aVar 3) (aCons (aVar 5) aNil))))) (aVar 1) (aVar 6)) (aFor (aEnum (aCons (aCall sp__law_inner (aCons (aVar 4) aNil)) aNil)) (gTp (gsCons (gNm 7) (gsCons (gNm 8) gsNil))) (aDrop (aMtL (rMutA fAppend) (aVar 2) (aCons (aTup (aCons (aOp rIxA (aVar 8) (aC (.int 1))) (aCons (aOp rAddA (aVar 5) (aOp rIxA (aVar 8) (aC (.int 0)))) (aCons (aOp rAddA (aVar 6) (aTup (aCons (aVar 7) aNil))) aNil)))) aNil)))))))) (aRet (aVar 1))))

def b__law_due (sp__law_rows : SpA) : ATS :=
  aSeq (aSet 3 aDNew) (aSeq (aFor (aItemsT (aVar 0)) (gTp (gsCons (gNm 4) (gsCons (gNm 5) gsNil))) (aIf (aB (aOp (rEqA true) (aSl false (aVar 4) aNoPart (aPart (aCall rLenA (aCons (aVar 1) aNil)))) (aVar 1))) (aDPut (aVar 5) (aVar 3) (aVar 4)) aNext)) (aSeq (aFor (aItemsT (aCall sp__law_rows (aCons (aVar 2) aNil))) (gTp (gsCons (gNm 4) (gsCons (gNm 5) gsNil))) (aDPut (aTup (aCons (aOp rIxA (aVar 5) (aC (.int 0))) (aCons (aOp rIxA (aVar 5) (aC (.int 1))) (aCons (aOp rIxA (aVar 5) (aC (.int 2))) (aCons (aOp rAddA (aOp rIxA (aVar 5) (aC (.int 3))) (aOp rIxA (aDGet (aVar 0) (aVar 1)) (aC (.int 3)))) aNil))))) (aVar 3) (aOp rAddA (aVar 1) (aVar 4)))) (aRet (aVar 3))))

def b__law_there (sp__law_inner : SpA) : ATS :=
  aSeq (aFor (aIter (aVar 1)) (gNm 2) (aSet 0 (aOp rIxA (aOp rIxA (aCall sp__law_inner (aCons (aVar 0) aNil)) (aVar 2)) (aC (.int 1))))) (aRet (aVar 0))

def b_law (sp__law_cell_at sp__law_mix sp__law_drawn sp__law_grown sp__law_rows sp_changed sp__law_due sp__law_there : SpA) : ATS :=
  aSeq (aFor (aRange3 (aCons (aC (.int 0)) (aCons (aCall rMaxA (aCons (aC (.int 1)) (aCons (aCall rMinA (aCons (aCall rLenA (aCons (aVar 0) aNil)) (aCons (aC (.int 63)) aNil))) aNil))) (aCons (aC (.int 6)) aNil)))) (gNm 1) (aSeq (aSet 2 (aCall sp__law_cell_at (aCons (aVar 0) (aCons (aVar 1) aNil)))) (aSeq (aSet 3 (aCall sp__law_grown (aCons (aCall sp__law_drawn (aCons (aSl false (aVar 0) (aPart (aVar 1)) aNoPart) (aCons (aOp rModA (aCall sp__law_mix (aCons (aVar 2) (aCons (aC (.int 40)) aNil))) (aC (.int 4))) (aCons (aVar 2) aNil)))) (aCons (aCall sp__law_mix (aCons (aVar 2) (aCons (aC (.int 48)) aNil))) aNil)))) (aSeq (aSet 4 (aCall sp__law_drawn (aCons (aSl false (aVar 0) (aPart (aOp rAddA (aVar 1) (aC (.int 1)))) (aPart (aOp rAddA (aVar 1) (aC (.int 4))))) (aCons (aC (.int 2)) (aCons (aVar 2) aNil))))) (aSeq (aSet 5 (aCall sp__law_rows (aCons (aVar 3) aNil))) (aSeq (aSet 6 (aCall rSortTA (aCons (aVar 5) aNil))) (aSeq (aSet 7 (aOp rIxA (aVar 6) (aOp rModA (aCall sp__law_mix (aCons (aVar 2) (aCons (aC (.int 41)) aNil))) (aCall rLenA (aCons (aVar 6) aNil))))) (aSeq (aSet 8 (aCall sp_changed (aCons (aVar 3) (aCons (aVar 7) (aCons (aVar 4) aNil))))) (aSeq (aIf (aOrT (aB (aOp (rSameT true) (aCall sp__law_rows (aCons (aVar 8) aNil)) (aCall sp__law_due (aCons (aVar 5) (aCons (aVar 7) (aCons (aVar 4) aNil)))))) (aB (aOp (rSameT true) (aCall sp__law_rows (aCons (aVar 3) aNil)) (aVar 5)))) (aRet (aC (.bl false))) aNext) (aIf (aB (aOp (rEqA true) (aCall sp_changed (aCons (aVar 8) (aCons (aVar 7) (aCons (aCall sp__law_there (aCons (aVar 3) (aCons (aVar 7) aNil))) aNil)))) (aVar 3))) (aRet (aC (.bl false))) aNext)))))))))) (aRet (aC (.bl true)))

end HA.K7

/-! The law of changed terms: changed, there. -/
namespace HA.K7
open PySem PySem.Spec PyProof.Rows L2 PySem.W
theorem eqD_pl (p q : Pl) : eqD (encPl p) (encPl q) = decide (p = q) := by
  show PyData.eqv (.tuple (dats (p.map AV.int))) (.tuple (dats (q.map AV.int))) = _
  rw [PyData.eqv]
  induction p generalizing q with
  | nil => cases q with
    | nil => simp [dats, PyData.eqvAll]
    | cons j q => simp [dats, PyData.eqvAll]
  | cons k p ih => cases q with
    | nil => simp [dats, PyData.eqvAll]
    | cons j q =>
      show PyData.eqvAll (PyData.int k :: dats (p.map AV.int)) (PyData.int j :: dats (q.map AV.int)) = _
      rw [eqv_all_cons, ih]
      by_cases h : k = j
      · subst h; simp [PyData.eqv]
      · simp [PyData.eqv, h]
theorem eqPl_i {neg : Bool} {p q : Pl} {S : Sto} {Q : AQ} (h : Q (.bl (neg ^^ decide (p = q))) S) : rEqA neg (encPl p) (encPl q) S Q := by
  refine rEqA_i (a := encPl p) (b := encPl q) rfl rfl (okD_pl p) (okD_pl q) ?_ (by rw [eqD_pl]; exact h)
  have : (dat (encPl p)).depth ≤ 1 := dp_pl p
  unfold maxDep
  omega
def sp_ch (n : Nat) : SpA := fun xs S Q => ∃ (t : Tm) (p : Pl) (o : Tm) (z : Nat × Tm), xs = [enc t, encPl p, enc o] ∧ depT t ≤ n ∧ (okT t ∧ okT o) ∧ sizeT t ≤ 10000 ∧ atT t p = some z ∧ Q (enc (chT p t o)) S
theorem cut_tail (k : Int) (p : Pl) : cutA ((k :: p).map AV.int) (some 1) none = p.map AV.int := by
  unfold cutA sixA
  show (((AV.int k :: p.map AV.int).drop (min 1 (p.map AV.int).length.succ))).take ((p.map AV.int).length.succ - min 1 (p.map AV.int).length.succ) = _
  have e : min 1 (p.map AV.int).length.succ = 1 := by omega
  rw [e, List.drop_one, List.tail_cons, Nat.succ_sub_one, List.take_length]
theorem set_encPs {ps : List (Nat × Tm)} {n : Nat} {m : Nat} {u : Tm} : (encPs ps).set n (.tup [.int m, enc u]) = encPs (ps.set n (m, u)) := by
  rw [encPs_map, encPs_map, List.map_set]
  rfl
theorem set_encs {ts : List Tm} {n : Nat} {u : Tm} : (encs ts).set n (enc u) = encs (ts.set n u) := by
  rw [encs_map, encs_map, List.map_set]
theorem ixN_nat {l n : Nat} (h : n < l) : ixN l (n : Int) = some n := by
  unfold ixN
  rw [if_pos (by omega), if_pos (by omega)]
  rfl
theorem wp_changed (n : Nat) (xs : List AV) (S : Sto) (Q : AQ) (h : sp_ch (n + 1) xs S Q) : b_changed (sp_ch n) (D0 S Q) (startA 7 xs) S := by
  obtain ⟨t, p, o, z, rfl, hd, ⟨ok1, ok2⟩, hsz, ha, h⟩ := h
  refine ⟨zl0, ?_⟩
  refine eqPl_i (p := p) (q := []) ?_
  cases p with
  | nil => exact .inl h
  | cons k p =>
    have e : decide ((k :: p : Pl) = []) = false := by simp
    rw [e]
    have ha0 := ha
    rw [atT] at ha
    cases k with
    | negSucc i => cases ha
    | ofNat i =>
      cases hk : (inn t)[i]? with
      | none => rw [show atT.ixP (inn t) (Int.ofNat i) = none from hk] at ha; cases ha
      | some w =>
        obtain ⟨m, u⟩ := w
        rw [show atT.ixP (inn t) (Int.ofNat i) = some (m, u) from hk] at ha
        dsimp only at ha
        cases hu : atT u p with
        | none => rw [hu] at ha; cases ha
        | some y =>
          have hmem : (m, u) ∈ inn t := List.mem_of_getElem? hk
          have d1 : depT u < depT t := depT_lt hmem
          have d2 : sizeT u < sizeT t := sizeT_lt hmem
          have oku := ((okT_eq t).mp ok1).2 _ hmem
          cases t with
          | name j => simp [inn] at hk
          | sign v ps =>
            have hk : ps[i]? = some (m, u) := hk
            have hl : i < ps.length := (List.getElem?_eq_some_iff.mp hk).1
            have hlp : i < (encPs ps).length := by rw [encPs_map, List.length_map]; exact hl
            have fin : ∀ y4 y5 y6, aRet (aTup (aCons (aOp rIxA (aVar 0) (aC (.int 0))) (aCons (aOp rIxA (aVar 0) (aC (.int 1))) (aCons (aCall rTupA (aCons (aVar 3) aNil)) aNil)))) (D0 S Q) [some (enc (.sign v ps)), some (encPl (Int.ofNat i :: p)), some (enc o), some (.ref S.length), y4, y5, y6] (S ++ [.lst (encPs (ps.set i (m, chT p u o)))]) := fun y4 y5 y6 => by
              have go : rTupA [.ref S.length] (S ++ [.lst (encPs (ps.set i (m, chT p u o)))]) fun x S2 => [AV.str "sign", .str v, x].length ≤ sizeLine ∧ retQ S Q (.tup [.str "sign", .str v, x]) S2 := by
                refine rTup_i (seqA_ref (sto_new _ _)) ⟨zl3, ?_⟩
                have e1 : AV.tup [.str "sign", .str v, .tup (encPs (ps.set i (m, chT p u o)))] = enc (chT (Int.ofNat i :: p) (.sign v ps) o) := by
                  show AV.tup [.str "sign", .str v, .tup (encPs (ps.set i (m, chT p u o)))] = .tup [.str "sign", .str v, .tup (encPs (setP ps i fun u => chT p u o))]
                  unfold setP
                  rw [hk]
                rw [e1]
                exact ret_dat (noRef_ok _ (okD_enc _ (ok_ch _ _ _ ok1 ok2))) h
              exact go
            have upd : rSetLA (.ref S.length) (.int (i : Int)) (.tup [.int m, enc (chT p u o)]) (S ++ [.lst (encPs ps)]) (aRet (aTup (aCons (aOp rIxA (aVar 0) (aC (.int 0))) (aCons (aOp rIxA (aVar 0) (aC (.int 1))) (aCons (aCall rTupA (aCons (aVar 3) aNil)) aNil)))) (D0 S Q) [some (enc (.sign v ps)), some (encPl (Int.ofNat i :: p)), some (enc o), some (.ref S.length), some (.int (i : Int)), some (.int m), some (enc u)]) := by
              refine rSetL_i (j := i) (sto_new _ _) (ixN_nat hlp) ?_
              rw [snoc_set, set_encPs]
              exact fin _ _ _
            have call : sp_ch n [enc u, .tup (cutA ((Int.ofNat i :: p).map AV.int) (some 1) none), enc o] (S ++ [.lst (encPs ps)]) fun x S2 => [AV.int m, x].length ≤ sizeLine ∧ rSetLA (.ref S.length) (.int (i : Int)) (.tup [.int m, x]) S2 (aRet (aTup (aCons (aOp rIxA (aVar 0) (aC (.int 0))) (aCons (aOp rIxA (aVar 0) (aC (.int 1))) (aCons (aCall rTupA (aCons (aVar 3) aNil)) aNil)))) (D0 S Q) [some (enc (.sign v ps)), some (encPl (Int.ofNat i :: p)), some (enc o), some (.ref S.length), some (.int (i : Int)), some (.int m), some (enc u)]) :=
              ⟨u, p, o, y, by rw [cut_tail]; rfl, by omega, ⟨oku, ok2⟩, by omega, hu, zl2, upd⟩
            have ix : rIxA (.ref S.length) (.int (i : Int)) (S ++ [.lst (encPs ps)]) fun x S2 => gTp (gsCons (gNm 5) (gsCons (gNm 6) gsNil)) x [some (enc (.sign v ps)), some (encPl (Int.ofNat i :: p)), some (enc o), some (.ref S.length), some (.int (i : Int)), none, none] S2
                (aSetIx (aTup (aCons (aVar 5) (aCons (aCall (sp_ch n) (aCons (aVar 6) (aCons (aSl false (aVar 1) (aPart (aC (.int 1))) aNoPart) (aCons (aVar 2) aNil)))) aNil))) (aVar 3) (aVar 4) rSetLA { nx := (aRet (aTup (aCons (aOp rIxA (aVar 0) (aC (.int 0))) (aCons (aOp rIxA (aVar 0) (aC (.int 1))) (aCons (aCall rTupA (aCons (aVar 3) aNil)) aNil))))) (D0 S Q), rt := retQ S Q }) := by
              refine rIxA_i (y := encP (m, u)) (seqA_ref (sto_new _ _)) (show (encPs ps)[i]? = _ by rw [encPs_map, List.getElem?_map, hk]; rfl) ?_
              exact call
            exact ix
          | hole v ts =>
            have hk : (ts.map fun t => (0, t))[i]? = some (m, u) := hk
            rw [List.getElem?_map] at hk
            obtain ⟨u', hk, e0⟩ := Option.map_eq_some_iff.mp hk
            cases e0
            have hl : i < ts.length := (List.getElem?_eq_some_iff.mp hk).1
            have hlp : i < (encs ts).length := by rw [encs_map, List.length_map]; exact hl
            have fin : ∀ y5 y6, aRet (aTup (aCons (aOp rIxA (aVar 0) (aC (.int 0))) (aCons (aOp rIxA (aVar 0) (aC (.int 1))) (aCons (aCall rTupA (aCons (aVar 3) aNil)) aNil)))) (D0 S Q) [some (enc (.hole v ts)), some (encPl (Int.ofNat i :: p)), some (enc o), some (.ref S.length), some (.int (i : Int)), y5, y6] (S ++ [.lst (encs (ts.set i (chT p u o)))]) := fun y5 y6 => by
              have go : rTupA [.ref S.length] (S ++ [.lst (encs (ts.set i (chT p u o)))]) fun x S2 => [AV.str "hole", .str v, x].length ≤ sizeLine ∧ retQ S Q (.tup [.str "hole", .str v, x]) S2 := by
                refine rTup_i (seqA_ref (sto_new _ _)) ⟨zl3, ?_⟩
                have e1 : AV.tup [.str "hole", .str v, .tup (encs (ts.set i (chT p u o)))] = enc (chT (Int.ofNat i :: p) (.hole v ts) o) := by
                  show AV.tup [.str "hole", .str v, .tup (encs (ts.set i (chT p u o)))] = .tup [.str "hole", .str v, .tup (encs (setT ts i fun u => chT p u o))]
                  unfold setT
                  rw [hk]
                rw [e1]
                exact ret_dat (noRef_ok _ (okD_enc _ (ok_ch _ _ _ ok1 ok2))) h
              exact go
            have upd : rSetLA (.ref S.length) (.int (i : Int)) (enc (chT p u o)) (S ++ [.lst (encs ts)]) (aRet (aTup (aCons (aOp rIxA (aVar 0) (aC (.int 0))) (aCons (aOp rIxA (aVar 0) (aC (.int 1))) (aCons (aCall rTupA (aCons (aVar 3) aNil)) aNil)))) (D0 S Q) [some (enc (.hole v ts)), some (encPl (Int.ofNat i :: p)), some (enc o), some (.ref S.length), some (.int (i : Int)), none, none]) := by
              refine rSetL_i (j := i) (sto_new _ _) (ixN_nat hlp) ?_
              rw [snoc_set, set_encs]
              exact fin _ _
            have call : sp_ch n [enc u, .tup (cutA ((Int.ofNat i :: p).map AV.int) (some 1) none), enc o] (S ++ [.lst (encs ts)]) fun x S2 => rSetLA (.ref S.length) (.int (i : Int)) x S2 (aRet (aTup (aCons (aOp rIxA (aVar 0) (aC (.int 0))) (aCons (aOp rIxA (aVar 0) (aC (.int 1))) (aCons (aCall rTupA (aCons (aVar 3) aNil)) aNil)))) (D0 S Q) [some (enc (.hole v ts)), some (encPl (Int.ofNat i :: p)), some (enc o), some (.ref S.length), some (.int (i : Int)), none, none]) :=
              ⟨u, p, o, y, by rw [cut_tail]; rfl, by omega, ⟨oku, ok2⟩, by omega, hu, upd⟩
            have ix : rIxA (.ref S.length) (.int (i : Int)) (S ++ [.lst (encs ts)]) fun x S2 => sp_ch n [x, .tup (cutA ((Int.ofNat i :: p).map AV.int) (some 1) none), enc o] S2 fun x S2 => rSetLA (.ref S.length) (.int (i : Int)) x S2 (aRet (aTup (aCons (aOp rIxA (aVar 0) (aC (.int 0))) (aCons (aOp rIxA (aVar 0) (aC (.int 1))) (aCons (aCall rTupA (aCons (aVar 3) aNil)) aNil)))) (D0 S Q) [some (enc (.hole v ts)), some (encPl (Int.ofNat i :: p)), some (enc o), some (.ref S.length), some (.int (i : Int)), none, none]) := by
              refine rIxA_i (y := enc u) (seqA_ref (sto_new _ _)) (show (encs ts)[i]? = _ by rw [encs_map, List.getElem?_map, hk]; rfl) ?_
              exact call
            exact ix
def sp_there : SpA := fun xs S Q => ∃ (t : Tm) (p : Pl) (z : Nat × Tm), xs = [enc t, encPl p] ∧ atT t p = some z ∧ Q (enc z.2) S
theorem there_loop {GA : Sto → Prop} (hG : ∀ S, GA S) {S : Sto} {D : AEnds} {v1 : Option AV} : ∀ (p : Pl) (t : Tm) (z : Nat × Tm) (x2 : Option AV), atT t p = some z → (∀ y2, D.nx [some (enc z.2), v1, y2] S) →
    forA GA (gNm 2) (aSet 0 (aOp rIxA (aOp rIxA (aCall sp_inner (aCons (aVar 0) aNil)) (aVar 2)) (aC (.int 1)))) (p.map AV.int) D [some (enc t), v1, x2] S
  | [], t, z, x2, h, q => by
    rw [atT] at h
    cases h
    exact ⟨hG _, q _⟩
  | k :: p, t, z, x2, h, q => by
    rw [atT] at h
    cases k with
    | negSucc n => cases h
    | ofNat n =>
      cases hk : (inn t)[n]? with
      | none => rw [show atT.ixP (inn t) (Int.ofNat n) = none from hk] at h; cases h
      | some w =>
        obtain ⟨m, u⟩ := w
        rw [show atT.ixP (inn t) (Int.ofNat n) = some (m, u) from hk] at h
        dsimp only at h
        cases hu : atT u p with
        | none => rw [hu] at h; cases h
        | some y =>
          rw [hu] at h
          cases h
          have ih := there_loop hG (S := S) (D := D) (v1 := v1) p u y (some (.int n)) hu q
          have go : rIxA (.fl (encPs (inn t))) (.int (n : Int)) S fun x S1 => rIxA x (.int 1) S1 fun x S2 => forA GA (gNm 2) (aSet 0 (aOp rIxA (aOp rIxA (aCall sp_inner (aCons (aVar 0) aNil)) (aVar 2)) (aC (.int 1)))) (p.map AV.int) D [some x, v1, some (.int (n : Int))] S2 :=
            rIxA_i (y := encP (m, u)) rfl (show (encPs (inn t))[n]? = _ by rw [encPs_map, List.getElem?_map, hk]; rfl) ih
          exact ⟨hG _, t, rfl, go⟩
theorem wp_there (xs : List AV) (S : Sto) (Q : AQ) (h : sp_there xs S Q) : b__law_there sp_inner (D0 S Q) (startA 3 xs) S := by
  obtain ⟨t, p, z, rfl, ha, h⟩ := h
  exact there_loop (fun _ => trivial) p t z none ha fun y2 => .inl h
end HA.K7

/-! The law of changed terms: the rows as a dict. -/
namespace HA.K7
open PySem PySem.Spec PyProof.Rows L2 PySem.W
structure FitR (t : Tm) : Prop where
  ok : okT t
  dp : depT t ≤ 60
  sz : sizeT t ≤ 5000
def keyR (p : Pl) : DK := .t (p.map Sum.inl)
def sortsA (x : Tm) : AV := .tup ((sortsT x).map fun n : Nat => AV.int n)
def valR (z : Nat × Tm) : AV := .tup [(headT z.2).1, (headT z.2).2, sortsA z.2, .int z.1]
abbrev rowsD (l : List Row) : AV := .fd (l.map fun r => keyR r.1) (l.map fun r => valR r.2)
theorem keyAs_pl : ∀ p : Pl, keyAs (p.map AV.int) = some (p.map Sum.inl)
  | [] => rfl
  | k :: p => by
    show (keyAs (p.map AV.int)).map (Sum.inl k :: ·) = _
    rw [keyAs_pl p]
    rfl
theorem keyA_pl (p : Pl) : keyA (encPl p) = some (keyR p) := by
  show (keyAs (p.map AV.int)).map DK.t = _
  rw [keyAs_pl]
  rfl
theorem keyR_inj {p q : Pl} (h : keyR p = keyR q) : p = q := by
  have h := DK.t.inj h
  induction p generalizing q with
  | nil => cases q with
    | nil => rfl
    | cons j q => cases h
  | cons k p ih => cases q with
    | nil => cases h
    | cons j q =>
      obtain ⟨h1, h2⟩ := List.cons.inj h
      rw [Sum.inl.inj h1, ih (congrArg DK.t h2) h2]
theorem put_new {k : DK} {v : AV} {ks : List DK} {xs : List AV} (h : k ∉ ks) : putKs k ks = ks ++ [k] ∧ putX k v ks xs = xs ++ [v] := by
  unfold putKs putX
  rw [if_neg h, if_neg h]
  exact ⟨rfl, rfl⟩
theorem fit_all {p : Pl} {l : List Row} : (l.map fun r => keyR r.1).all (fitK (keyR p)) = true := by
  rw [List.all_eq_true]
  intro k hk
  obtain ⟨r, _, rfl⟩ := List.mem_map.mp hk
  rfl
/-- d[p] = v, p new -/
theorem dput_i {S1 : Sto} {n : Nat} {p : Pl} {v : AV} {ks : List DK} {xs : List AV} {R : Sto → Prop} (hS : S1[n]? = some (.dct ks xs)) (hf : ks.all (fitK (keyR p)) = true) (hl : xs.length < sizeLine) (hn : keyR p ∉ ks)
    (q : R (S1.set n (.dct (ks ++ [keyR p]) (xs ++ [v])))) : rDPutA (.ref n) (encPl p) v S1 R := by
  refine rDPutA_i hS (keyA_pl p) hf hl ?_
  rw [(put_new (v := v) (xs := xs) hn).1, (put_new (v := v) (xs := xs) hn).2]
  exact q
def encW (w : Row) : AV := .tup [enc w.2.2, .int w.2.1, encPl w.1]
theorem okD_w {w : Row} (h : okT w.2.2) : okD (encW w) = true := by
  show (okD (enc w.2.2) && (true && (okD (encPl w.1) && true))) = true
  rw [okD_pl, okD_enc _ h]
  rfl
def rowKid : ATS := aDrop (aMtL (rMutA fAppend) (aVar 2) (aCons (aTup (aCons (aOp rIxA (aVar 8) (aC (.int 1))) (aCons (aOp rAddA (aVar 5) (aOp rIxA (aVar 8) (aC (.int 0)))) (aCons (aOp rAddA (aVar 6) (aTup (aCons (aVar 7) aNil))) aNil)))) aNil))
theorem rowKids {S : Sto} {D : AEnds} {v0 v1 v3 v4 y7 y8 v9 v10 : Option AV} {w : Row} {rest : List Row} {dc : Cell} (hp : w.1.length ≤ 100) (hz : rest.length + (inn w.2.2).length ≤ 20000)
    (fin : ∀ z7 z8, D.nx [v0, v1, some (.ref (S.length + 1)), v3, v4, some (.int w.2.1), some (encPl w.1), z7, z8, v9, v10] (S ++ [dc, .lst ((rest ++ ((inn w.2.2).zipIdx).map (kid w)).map encW)])) :
    forA (fun _ => True) (gTp (gsCons (gNm 7) (gsCons (gNm 8) gsNil))) rowKid (enumA (encPs (inn w.2.2))) D [v0, v1, some (.ref (S.length + 1)), v3, v4, some (.int w.2.1), some (encPl w.1), y7, y8, v9, v10] (S ++ [dc, .lst (rest.map encW)]) := by
  have zl : sizeLine = 2 ^ 24 := rfl
  refine forA_inv (l := (inn w.2.2).zipIdx) (done := []) (e := fun p => AV.tup [.int (p.2 : Nat), encP p.1]) (fun dn ρ S' => ∃ z7 z8, ρ = [v0, v1, some (.ref (S.length + 1)), v3, v4, some (.int w.2.1), some (encPl w.1), z7, z8, v9, v10] ∧ S' = S ++ [dc, .lst ((rest ++ dn.map (kid w)).map encW)]) (fun _ _ _ _ => trivial) (places_map w.2.2)
    ⟨y7, y8, rfl, by simp⟩ ?_ ?_
  · rintro dn ⟨q, i⟩ r ρ S' hl ⟨z7, z8, rfl, rfl⟩ nx hnx
    have hlen : dn.length < (inn w.2.2).length := by
      have := congrArg List.length hl
      simp at this
      omega
    show aMtL (rMutA fAppend) (aVar 2) _ [v0, v1, some (.ref (S.length + 1)), v3, v4, some (.int w.2.1), some (encPl w.1), some (.int i), some (encP q), v9, v10] _ _
    refine app_i rfl (get2b _ _ _) ⟨zl1, by show (w.1.map AV.int).length + 1 ≤ _; rw [List.length_map]; omega, zl3, appM_i (get2b _ _ _) ?_ ?_⟩
    · rw [List.length_map, List.length_append, List.length_map]
      omega
    · rw [set2b]
      refine hnx _ _ ⟨some (.int i), some (encP q), rfl, ?_⟩
      have e : AV.tup [enc q.2, .int ((w.2.1 : Int) + (q.1 : Int)), .tup (w.1.map AV.int ++ [.int i])] = encW (kid w (q, i)) := by
        unfold encW kid encPl
        dsimp only
        rw [List.map_append, Int.natCast_add]
        rfl
      rw [e]
      simp only [List.map_append, List.map_cons, List.map_nil, List.append_assoc]
  · rintro ρ S' ⟨z7, z8, rfl, rfl⟩
    rw [List.nil_append]
    exact fin z7 z8
def rowBody (sp : SpA) : ATS := (aSeq (aAsg (aMtL (rMutA fPop) (aVar 2) aNil) (gTp (gsCons (gNm 4) (gsCons (gNm 5) (gsCons (gNm 6) gsNil))))) (aSeq (aSet 3 (aCall rTupA (aCons (aComp (aIter (aCall sp (aCons (aVar 4) aNil))) (gTp (gsCons (gNm 9) (gsCons (gNm 10) gsNil))) aYes (aVar 9) [9, 10]) aNil))) (aSeq (aDPut (aTup (aCons (aOp rIxA (aVar 4) (aC (.int 0))) (aCons (aOp rIxA (aVar 4) (aC (.int 1))) (aCons (aVar 3) (aCons (aVar 5) aNil))))) (aVar 1) (aVar 6)) (aFor (aEnum (aCons (aCall sp (aCons (aVar 4) aNil)) aNil)) (gTp (gsCons (gNm 7) (gsCons (gNm 8) gsNil))) rowKid))))
theorem head_ix (x : Tm) : ∃ r, enc x = .tup ((headT x).1 :: (headT x).2 :: r) := by
  cases x with
  | name k => exact ⟨[], rfl⟩
  | sign w ps => exact ⟨[_], rfl⟩
  | hole w ts => exact ⟨[_], rfl⟩
theorem row_step {S : Sto} {D : AEnds} {v0 x3 x7 x8 x9 x10 : Option AV} {w : Row} {rest fd : List Row} (hp : w.1.length ≤ 100) (hz : rest.length + (inn w.2.2).length ≤ 20000) (hf : fd.length ≤ 10000) (hn : w.1 ∉ fd.map (·.1))
    (fin : ∀ z3 z4 z5 z6 z7 z8 z9 z10, D.nx [v0, some (.ref S.length), some (.ref (S.length + 1)), z3, z4, z5, z6, z7, z8, z9, z10] (S ++ [.dct ((fd ++ [w]).map fun r => keyR r.1) ((fd ++ [w]).map fun r => valR r.2), .lst ((rest ++ ((inn w.2.2).zipIdx).map (kid w)).map encW)])) :
    aSeq (aSet 3 (aCall rTupA (aCons (aComp (aIter (aCall sp_inner (aCons (aVar 4) aNil))) (gTp (gsCons (gNm 9) (gsCons (gNm 10) gsNil))) aYes (aVar 9) [9, 10]) aNil))) (aSeq (aDPut (aTup (aCons (aOp rIxA (aVar 4) (aC (.int 0))) (aCons (aOp rIxA (aVar 4) (aC (.int 1))) (aCons (aVar 3) (aCons (aVar 5) aNil))))) (aVar 1) (aVar 6)) (aFor (aEnum (aCons (aCall sp_inner (aCons (aVar 4) aNil)) aNil)) (gTp (gsCons (gNm 7) (gsCons (gNm 8) gsNil))) rowKid)) D
      [v0, some (.ref S.length), some (.ref (S.length + 1)), x3, some (enc w.2.2), some (.int w.2.1), some (encPl w.1), x7, x8, x9, x10] (S ++ [.dct (fd.map fun r => keyR r.1) (fd.map fun r => valR r.2), .lst (rest.map encW)]) := by
  have zl : sizeLine = 2 ^ 24 := rfl
  obtain ⟨r0, e0⟩ := head_ix w.2.2
  refine ⟨w.2.2, rfl, ?_⟩
  refine compA_map (l := inn w.2.2) (e := encP) (r := fun p => .int p.1) (encPs_map _) trivial (fun p hp Q' q => q) ?_
  have e1 : (inn w.2.2).map (fun p : Nat × Tm => AV.int p.1) = (sortsT w.2.2).map fun n : Nat => AV.int n := by
    unfold sortsT
    rw [List.map_map]
    rfl
  have hk : keyR w.1 ∉ fd.map fun r => keyR r.1 := fun h => by
    obtain ⟨r, hr, e⟩ := List.mem_map.mp h
    exact hn (List.mem_map.mpr ⟨r, hr, keyR_inj e⟩)
  have put : rIxA (enc w.2.2) (.int 0) (S ++ [.dct (fd.map fun r => keyR r.1) (fd.map fun r => valR r.2), .lst (rest.map encW)]) fun a S2 => rIxA (enc w.2.2) (.int 1) S2 fun b S3 => [a, b, sortsA w.2.2, .int w.2.1].length ≤ sizeLine ∧
      rDPutA (.ref S.length) (encPl w.1) (.tup [a, b, sortsA w.2.2, .int w.2.1]) S3 fun S4 => aFor (aEnum (aCons (aCall sp_inner (aCons (aVar 4) aNil)) aNil)) (gTp (gsCons (gNm 7) (gsCons (gNm 8) gsNil))) rowKid D [v0, some (.ref S.length), some (.ref (S.length + 1)), some (sortsA w.2.2), some (enc w.2.2), some (.int w.2.1), some (encPl w.1), x7, x8, x9, x10] S4 := by
    rw [e0]
    refine rIxA_i (x := .tup _) (y := (headT w.2.2).1) rfl rfl ?_
    refine rIxA_i (x := .tup _) (y := (headT w.2.2).2) rfl rfl ⟨by show 4 ≤ sizeLine; decide, ?_⟩
    refine dput_i (get2a _ _ _) fit_all (by rw [List.length_map]; omega) hk ?_
    rw [set2a]
    refine ⟨w.2.2, by rw [e0], ?_⟩
    have e2 : (fd.map fun r => keyR r.1) ++ [keyR w.1] = (fd ++ [w]).map fun r => keyR r.1 := by rw [List.map_append]; rfl
    have e3 : (fd.map fun r => valR r.2) ++ [AV.tup [(headT w.2.2).1, (headT w.2.2).2, sortsA w.2.2, .int w.2.1]] = (fd ++ [w]).map fun r => valR r.2 := by rw [List.map_append]; rfl
    rw [e2, e3, ← e0]
    exact rowKids hp hz fun z7 z8 => fin _ _ _ _ _ _ _ _
  have tup : rTupA [.fl ([] ++ (inn w.2.2).map fun p => AV.int p.1)] (S ++ [.dct (fd.map fun r => keyR r.1) (fd.map fun r => valR r.2), .lst (rest.map encW)]) fun x S1 => aDPut (aTup (aCons (aOp rIxA (aVar 4) (aC (.int 0))) (aCons (aOp rIxA (aVar 4) (aC (.int 1))) (aCons (aVar 3) (aCons (aVar 5) aNil))))) (aVar 1) (aVar 6)
      { nx := aFor (aEnum (aCons (aCall sp_inner (aCons (aVar 4) aNil)) aNil)) (gTp (gsCons (gNm 7) (gsCons (gNm 8) gsNil))) rowKid D, rt := D.rt, bk := D.bk, ct := D.ct } [v0, some (.ref S.length), some (.ref (S.length + 1)), some x, some (enc w.2.2), some (.int w.2.1), some (encPl w.1), x7, x8, x9, x10] S1 := by
    refine rTup_i rfl ?_
    rw [List.nil_append, e1]
    exact put
  exact tup
theorem rows_while {t : Tm} (ft : FitR t) {S : Sto} {D : AEnds} {v0 : Option AV} (fin : ∀ (l : List Row) y3 y4 y5 y6 y7 y8 y9 y10, l.Perm (rowsT t) → D.nx [v0, some (.ref S.length), some (.ref (S.length + 1)), y3, y4, y5, y6, y7, y8, y9, y10] (S ++ [.dct (l.map fun r => keyR r.1) (l.map fun r => valR r.2), .lst []])) :
    ∀ (n : Nat) (ws fd : List Row) (x3 x4 x5 x6 x7 x8 x9 x10 : Option AV), mu ws < n → (fd ++ ws.flatMap sub).Perm (rowsT t) →
      whA (aB (aOp (rEqA true) (aVar 2) (aLst false aNil))) (rowBody sp_inner) n D [v0, some (.ref S.length), some (.ref (S.length + 1)), x3, x4, x5, x6, x7, x8, x9, x10] (S ++ [.dct (fd.map fun r => keyR r.1) (fd.map fun r => valR r.2), .lst (ws.map encW)])
  | 0, ws, fd, _, _, _, _, _, _, _, _, h, _ => absurd h (Nat.not_lt_zero _)
  | n + 1, ws, fd, x3, x4, x5, x6, x7, x8, x9, x10, h, hp => by
    have zl : sizeLine = 2 ^ 24 := rfl
    have hall : ∀ w ∈ ws, okT w.2.2 ∧ w.1.length ≤ 100 := fun w hw => by
      have m : w ∈ rowsT t := hp.mem_iff.mp (List.mem_append_right _ (List.mem_flatMap.mpr ⟨w, hw, sub_self w⟩))
      have := row_len t w m
      have := ft.dp
      exact ⟨okT_at t ft.ok w m, by omega⟩
    have htot : fd.length + mu ws = sizeT t := by
      have := hp.length_eq
      rw [List.length_append, rows_len] at this
      exact this
    have hsz := ft.sz
    have hwl := mu_len ws
    refine ⟨zl0, ?_⟩
    dsimp only [aNew]
    refine eqNil_i (xs := ws.map encW) (unref_lst (get2b _ _ _)) (fun y hy => ?_) ?_
    · obtain ⟨w, hw, rfl⟩ := List.mem_map.mp hy
      exact okD_w (hall w hw).1
    · by_cases he : ws = []
      · subst he
        rw [List.flatMap_nil, List.append_nil] at hp
        exact fin fd _ _ _ _ _ _ _ _ hp
      · obtain ⟨pre, w, rfl⟩ : ∃ pre w, ws = pre ++ [w] := ⟨ws.dropLast, ws.getLast he, (List.dropLast_concat_getLast he).symm⟩
        have hne : (((pre ++ [w]).map encW).isEmpty) = false := by simp
        rw [hne]
        have hw := hall w (by simp)
        have hmu : mu (pre ++ [w]) = mu pre + sizeT w.2.2 := by
          rw [mu_app]
          congr 1
          unfold mu
          rw [List.flatMap_cons, List.flatMap_nil, List.append_nil, sub_len]
        have hk := mu_kids w
        have hkl := mu_len (((inn w.2.2).zipIdx).map (kid w))
        rw [List.length_map, List.length_zipIdx] at hkl
        have hp2 : (fd ++ [w] ++ (pre ++ ((inn w.2.2).zipIdx).map (kid w)).flatMap sub).Perm (rowsT t) := by
          refine List.Perm.trans ?_ hp
          rw [List.flatMap_append, List.flatMap_append, List.flatMap_cons, List.flatMap_nil, List.append_nil, sub_eq w, List.append_assoc]
          refine List.Perm.append_left fd ?_
          show ([w] ++ (pre.flatMap sub ++ _)).Perm _
          rw [← List.append_assoc]
          refine ((List.perm_append_comm (l₁ := [w]) (l₂ := pre.flatMap sub)).append_right _).trans ?_
          rw [List.append_assoc]
          exact List.Perm.refl _
        have hnd : w.1 ∉ fd.map (·.1) := by
          have nd := (hp2.map (·.1)).nodup_iff.mpr (places_nodup t)
          rw [List.map_append, List.map_append] at nd
          have nd := (List.nodup_append.mp nd).1
          have := (List.nodup_append.mp nd).2.2
          exact fun z => this _ z w.1 (by simp) rfl
        show aMtL (rMutA fPop) (aVar 2) aNil [v0, some (.ref S.length), some (.ref (S.length + 1)), x3, x4, x5, x6, x7, x8, x9, x10] _ _
        refine mtVar_i rfl (asL_ref (get2b _ _ _)) ?_
        dsimp only [aNil]
        refine rMut_i (z := encW w) (zs := pre.map encW) (get2b _ _ _) ?_ ?_ ?_
        · unfold fPop
          rw [List.map_append, List.map_cons, List.map_nil, List.getLast?_append]
          simp
        · rw [List.length_map]
          rw [List.length_append] at hwl
          omega
        · rw [set2b]
          refine row_step (w := w) (rest := pre) hw.2 (by rw [List.length_append] at hwl; omega) (by omega) hnd fun z3 z4 z5 z6 z7 z8 z9 z10 => ?_
          exact rows_while ft fin n (pre ++ ((inn w.2.2).zipIdx).map (kid w)) (fd ++ [w]) z3 z4 z5 z6 z7 z8 z9 z10 (by rw [mu_app]; omega) hp2
def sp_rows : SpA := fun xs S Q => ∃ t, xs = [enc t] ∧ FitR t ∧ ∀ l : List Row, l.Perm (rowsT t) → Q (rowsD l) S
theorem val_ok {z : Nat × Tm} (h : okT z.2) : okD (valR z) = true := by
  have a : okD (sortsA z.2) = true := okD_tup fun y hy => by
    obtain ⟨k, _, rfl⟩ := List.mem_map.mp hy
    rfl
  have b : okD (headT z.2).1 = true ∧ okD (headT z.2).2 = true := by
    obtain ⟨n, x⟩ := z
    have h1 := ((okT_eq x).mp h).1
    cases x with
    | name k => exact ⟨ok_name, rfl⟩
    | sign w ps => exact ⟨ok_sign, h1 w rfl⟩
    | hole w ts => exact ⟨ok_hole, h1 w rfl⟩
  show (okD (headT z.2).1 && (okD (headT z.2).2 && (okD (sortsA z.2) && (true && true)))) = true
  rw [a, b.1, b.2]
  rfl
theorem wp_rows (xs : List AV) (S : Sto) (Q : AQ) (h : sp_rows xs S Q) : b__law_rows sp_inner (D0 S Q) (startA 11 xs) S := by
  obtain ⟨t, rfl, ft, h⟩ := h
  have go : aWhile (aB (aOp (rEqA true) (aVar 2) (aLst false aNil))) (rowBody sp_inner) { nx := aRet (aVar 1) (D0 S Q), rt := retQ S Q } [some (enc t), some (.ref S.length), some (.ref (S.length + 1)), none, none, none, none, none, none, none, none] (S ++ [.dct [] [], .lst [encW ([], 0, t)]]) := by
    refine ⟨mu [([], 0, t)] + 1, rows_while (t := t) ft (fun l y3 y4 y5 y6 y7 y8 y9 y10 hl => ?_) _ [([], 0, t)] [] none none none none none none none none (Nat.lt_succ_self _) ?_⟩
    · refine ret_cut rfl (.dct (Nat.le_refl _) (get2a _ _ _) (frzs_same fun x hx => ?_)) (h l hl)
      obtain ⟨r, hr, rfl⟩ := List.mem_map.mp hx
      exact noRef_ok _ (val_ok (okT_at t ft.ok r (hl.mem_iff.mp hr)))
    · rw [List.nil_append, List.flatMap_cons, List.flatMap_nil, List.append_nil, sub_root]
  have e1 : (S ++ [Cell.dct [] []]).length = S.length + 1 := by simp
  have e2 : S ++ [Cell.dct [] [], .lst [encW ([], 0, t)]] = (S ++ [Cell.dct [] []]) ++ [.lst [encW ([], 0, t)]] := by simp
  rw [e2, ← e1] at go
  exact ⟨zl0, zl3, zl1, go⟩
end HA.K7

/-! The law of changed terms: what is due. -/
namespace HA.K7
open PySem PySem.Spec PyProof.Rows L2 PySem.W
abbrev offP (p : Pl) (r : Row) : Bool := decide (r.1.take p.length ≠ p)
def underP (p : Pl) (b : Nat) (r : Row) : Row := (p ++ r.1, r.2.1 + b, r.2.2)
def dueRows (p : Pl) (b : Nat) (l l' : List Row) : List Row := l.filter (offP p) ++ l'.map (underP p b)
theorem pairs_rows (l : List Row) : pairsA (l.map fun r => keyR r.1) (l.map fun r => valR r.2) = l.map fun r => AV.tup [encPl r.1, valR r.2] := by
  unfold pairsA
  rw [List.zip_map', List.map_map]
  refine List.map_congr_left fun r _ => ?_
  show AV.tup [.tup ((r.1.map Sum.inl).map kAV), valR r.2] = _
  rw [List.map_map]
  rfl
theorem keys_t {l : List Row} (h : l ≠ []) : (l.map fun r => keyR r.1) ≠ [] ∧ ∀ k ∈ (l.map fun r => keyR r.1), ∃ q, k = .t q := by
  refine ⟨fun z => h (List.map_eq_nil_iff.mp z), fun k hk => ?_⟩
  obtain ⟨r, _, rfl⟩ := List.mem_map.mp hk
  exact ⟨_, rfl⟩
theorem perm_ne {t : Tm} {l : List Row} (h : l.Perm (rowsT t)) : l ≠ [] := fun z => by
  have := h.length_eq
  rw [z, rows_len] at this
  have := sizeT_pos t
  simp at *
  omega
theorem look_rows {p : Pl} {z : Nat × Tm} : ∀ {l : List Row}, (l.map (·.1)).Nodup → (p, z) ∈ l → lookD (keyR p) (l.map fun r => keyR r.1) (l.map fun r => valR r.2) = some (valR z)
  | [], _, h => nomatch h
  | r :: l, hn, h => by
    rw [List.map_cons, List.nodup_cons] at hn
    show (if keyR r.1 = keyR p then some (valR r.2) else lookD (keyR p) (l.map fun r => keyR r.1) (l.map fun r => valR r.2)) = _
    rcases List.mem_cons.mp h with e | h
    · rw [← e, if_pos rfl]
    · have : r.1 ≠ p := fun e => hn.1 (List.mem_map.mpr ⟨(p, z), h, e.symm⟩)
      rw [if_neg (fun e => this (keyR_inj e))]
      exact look_rows hn.2 h
def sp_due : SpA := fun xs S Q => ∃ (t o : Tm) (p : Pl) (z : Nat × Tm) (l : List Row), xs = [rowsD l, encPl p, enc o] ∧ l.Perm (rowsT t) ∧ atT t p = some z ∧ FitR t ∧ FitR o ∧ ∀ l' : List Row, l'.Perm (rowsT o) → Q (rowsD (dueRows p z.1 l l')) S
theorem nodup_perm {t : Tm} {l : List Row} (h : l.Perm (rowsT t)) : (l.map (·.1)).Nodup := (h.map (·.1)).nodup_iff.mpr (places_nodup t)
theorem take_cut (q : Pl) (n : Nat) : cutA (q.map AV.int) none (some (n : Int)) = (q.take n).map AV.int := by
  unfold cutA sixA
  show ((q.map AV.int).drop 0).take (min n (q.map AV.int).length - 0) = _
  rw [List.drop_zero, Nat.sub_zero, ← List.map_take]
  congr 1
  rw [List.length_map]
  by_cases h : n ≤ q.length
  · rw [Nat.min_eq_left h]
  · rw [Nat.min_eq_right (by omega), List.take_length, List.take_of_length_le (by omega)]
def dueB1 : ATS := aIf (aB (aOp (rEqA true) (aSl false (aVar 4) aNoPart (aPart (aCall rLenA (aCons (aVar 1) aNil)))) (aVar 1))) (aDPut (aVar 5) (aVar 3) (aVar 4)) aNext
def dueB2 : ATS := aDPut (aTup (aCons (aOp rIxA (aVar 5) (aC (.int 0))) (aCons (aOp rIxA (aVar 5) (aC (.int 1))) (aCons (aOp rIxA (aVar 5) (aC (.int 2))) (aCons (aOp rAddA (aOp rIxA (aVar 5) (aC (.int 3))) (aOp rIxA (aDGet (aVar 0) (aVar 1)) (aC (.int 3)))) aNil))))) (aVar 3) (aOp rAddA (aVar 1) (aVar 4))
theorem wp_due (xs : List AV) (S : Sto) (Q : AQ) (h : sp_due xs S Q) : b__law_due sp_rows (D0 S Q) (startA 6 xs) S := by
  obtain ⟨t, o, p, z, l, rfl, hl, hz, ft, fo, h⟩ := h
  have zl : sizeLine = 2 ^ 24 := rfl
  have nd := nodup_perm hl
  have ll : l.length ≤ 5000 := by have := hl.length_eq; rw [rows_len] at this; have := ft.sz; omega
  have hpz : (p, z) ∈ l := hl.mem_iff.mpr (row_at p t z hz)
  have lp : p.length ≤ 100 := by have := row_len t _ (row_at p t z hz); have := ft.dp; show (p, z).1.length ≤ _; omega
  have okl : ∀ r ∈ l, okT r.2.2 := fun r hr => okT_at t ft.ok r (hl.mem_iff.mp hr)
  have second : ∀ y4 y5, aSeq (aFor (aItemsT (aCall sp_rows (aCons (aVar 2) aNil))) (gTp (gsCons (gNm 4) (gsCons (gNm 5) gsNil))) dueB2) (aRet (aVar 3)) (D0 S Q) [some (rowsD l), some (encPl p), some (enc o), some (.ref S.length), y4, y5] (S ++ [.dct ((l.filter (offP p)).map fun r => keyR r.1) ((l.filter (offP p)).map fun r => valR r.2)]) := fun y4 y5 => by
    refine ⟨o, rfl, fo, fun l' hl' => ⟨keys_t (perm_ne hl'), ?_⟩⟩
    have nd' := nodup_perm hl'
    have ll' : l'.length ≤ 5000 := by have := hl'.length_eq; rw [rows_len] at this; have := fo.sz; omega
    refine forA_inv (l := l') (done := []) (e := fun r => AV.tup [encPl r.1, valR r.2]) (fun dn ρ S' => ∃ y4 y5, ρ = [some (rowsD l), some (encPl p), some (enc o), some (.ref S.length), y4, y5] ∧ S' = S ++ [.dct ((dueRows p z.1 l dn).map fun r => keyR r.1) ((dueRows p z.1 l dn).map fun r => valR r.2)]) (fun _ _ _ _ => trivial) (pairs_rows l') ⟨y4, y5, rfl, by unfold dueRows; simp⟩ ?_ ?_
    · rintro dn r rr ρ S' hdn ⟨y4, y5, rfl, rfl⟩ nx hnx
      have hdn : l' = dn ++ r :: rr := hdn
      have hr : r ∈ rowsT o := hl'.mem_iff.mp (by rw [hdn]; simp)
      have lr := row_len o r hr
      have fd := fo.dp
      have ldn : (dueRows p z.1 l dn).length ≤ 10000 := by
        unfold dueRows
        have h1 : dn.length ≤ l'.length := by rw [hdn]; simp
        have h2 := List.length_filter_le (offP p) l
        rw [List.length_append, List.length_map]
        omega
      have hk : keyR (p ++ r.1) ∉ (dueRows p z.1 l dn).map fun r => keyR r.1 := fun hh => by
        obtain ⟨q, hq, e⟩ := List.mem_map.mp hh
        have e := keyR_inj e
        rcases List.mem_append.mp hq with hq | hq
        · have := of_decide_eq_true (List.mem_filter.mp hq).2
          rw [e] at this
          exact this (by simp)
        · obtain ⟨q', hq', rfl⟩ := List.mem_map.mp hq
          have e : q'.1 = r.1 := List.append_cancel_left e
          rw [hdn, List.map_append, List.map_cons] at nd'
          exact (List.nodup_append.mp nd').2.2 q'.1 (List.mem_map.mpr ⟨q', hq', rfl⟩) r.1 List.mem_cons_self e
      have put : rDPutA (.ref S.length) (encPl (p ++ r.1)) (valR (r.2.1 + z.1, r.2.2)) (S ++ [.dct ((dueRows p z.1 l dn).map fun r => keyR r.1) ((dueRows p z.1 l dn).map fun r => valR r.2)]) fun S4 => nx [some (rowsD l), some (encPl p), some (enc o), some (.ref S.length), some (encPl r.1), some (valR r.2)] S4 := by
        refine dput_i (sto_new _ _) fit_all (by rw [List.length_map]; omega) hk ?_
        rw [snoc_set]
        refine hnx _ _ ⟨_, _, rfl, ?_⟩
        have e1 : dueRows p z.1 l (dn ++ [r]) = dueRows p z.1 l dn ++ [underP p z.1 r] := by unfold dueRows; rw [List.map_append, List.append_assoc]; rfl
        rw [e1, List.map_append, List.map_append]
        rfl
      have add : rAddA (encPl p) (encPl r.1) (S ++ [.dct ((dueRows p z.1 l dn).map fun r => keyR r.1) ((dueRows p z.1 l dn).map fun r => valR r.2)]) fun y S3 => rDPutA (.ref S.length) y (valR (r.2.1 + z.1, r.2.2)) S3 fun S4 => nx [some (rowsD l), some (encPl p), some (enc o), some (.ref S.length), some (encPl r.1), some (valR r.2)] S4 := by
        refine ⟨by rw [List.length_map, List.length_map]; omega, ?_⟩
        have e : AV.tup (p.map AV.int ++ r.1.map AV.int) = encPl (p ++ r.1) := by unfold encPl; rw [List.map_append]
        rw [e]
        exact put
      have val : rAddA (.int r.2.1) (.int z.1) (S ++ [.dct ((dueRows p z.1 l dn).map fun r => keyR r.1) ((dueRows p z.1 l dn).map fun r => valR r.2)]) fun y S3 => [(headT r.2.2).1, (headT r.2.2).2, sortsA r.2.2, y].length ≤ sizeLine ∧ rAddA (encPl p) (encPl r.1) S3 fun w S4 => rDPutA (.ref S.length) w (.tup [(headT r.2.2).1, (headT r.2.2).2, sortsA r.2.2, y]) S4 fun S4 => nx [some (rowsD l), some (encPl p), some (enc o), some (.ref S.length), some (encPl r.1), some (valR r.2)] S4 := by
        refine ⟨by show 4 ≤ sizeLine; decide, ?_⟩
        have e : valR (r.2.1 + z.1, r.2.2) = .tup [(headT r.2.2).1, (headT r.2.2).2, sortsA r.2.2, .int ((r.2.1 : Int) + (z.1 : Int))] := by
          unfold valR
          dsimp only
          rw [Int.natCast_add]
        rw [e] at add
        exact add
      have get : aDGet (aVar 0) (aVar 1) [some (rowsD l), some (encPl p), some (enc o), some (.ref S.length), some (encPl r.1), some (valR r.2)] (S ++ [.dct ((dueRows p z.1 l dn).map fun r => keyR r.1) ((dueRows p z.1 l dn).map fun r => valR r.2)]) fun x S2 => rIxA x (.int 3) S2 fun y S2 => rAddA (.int r.2.1) y S2 fun y S3 => [(headT r.2.2).1, (headT r.2.2).2, sortsA r.2.2, y].length ≤ sizeLine ∧ rAddA (encPl p) (encPl r.1) S3 fun w S4 => rDPutA (.ref S.length) w (.tup [(headT r.2.2).1, (headT r.2.2).2, sortsA r.2.2, y]) S4 fun S4 => nx [some (rowsD l), some (encPl p), some (enc o), some (.ref S.length), some (encPl r.1), some (valR r.2)] S4 := by
        unfold aDGet
        refine var_i rfl (var_i rfl ?_)
        dsimp only [dctA]
        rw [keyA_pl]
        dsimp only
        rw [look_rows nd hpz]
        exact val
      exact get
    · rintro ρ S' ⟨y4, y5, rfl, rfl⟩
      refine ret_cut rfl (.dct (Nat.le_refl _) (sto_new _ _) (frzs_same fun x hx => ?_)) (h l' hl')
      obtain ⟨r, hr, rfl⟩ := List.mem_map.mp hx
      refine noRef_ok _ (val_ok ?_)
      rcases List.mem_append.mp hr with hr | hr
      · exact okl r (List.mem_filter.mp hr).1
      · obtain ⟨q, hq, rfl⟩ := List.mem_map.mp hr
        exact okT_at o fo.ok q (hl'.mem_iff.mp (by simpa using hq))
  have first : forA (fun _ => True) (gTp (gsCons (gNm 4) (gsCons (gNm 5) gsNil))) dueB1 (pairsA (l.map fun r => keyR r.1) (l.map fun r => valR r.2)) { nx := aSeq (aFor (aItemsT (aCall sp_rows (aCons (aVar 2) aNil))) (gTp (gsCons (gNm 4) (gsCons (gNm 5) gsNil))) dueB2) (aRet (aVar 3)) (D0 S Q), rt := retQ S Q } [some (rowsD l), some (encPl p), some (enc o), some (.ref S.length), none, none] (S ++ [.dct [] []]) := by
    refine forA_inv (l := l) (done := []) (e := fun r => AV.tup [encPl r.1, valR r.2]) (fun dn ρ S' => ∃ y4 y5, ρ = [some (rowsD l), some (encPl p), some (enc o), some (.ref S.length), y4, y5] ∧ S' = S ++ [.dct ((dn.filter (offP p)).map fun r => keyR r.1) ((dn.filter (offP p)).map fun r => valR r.2)]) (fun _ _ _ _ => trivial) (pairs_rows l) ⟨none, none, rfl, rfl⟩ ?_ ?_
    · rintro dn r rr ρ S' hdn ⟨y4, y5, rfl, rfl⟩ nx hnx
      have hdn : l = dn ++ r :: rr := hdn
      have ldn : dn.length ≤ l.length := by rw [hdn]; simp
      have lf := List.length_filter_le (offP p) dn
      have hk : keyR r.1 ∉ (dn.filter (offP p)).map fun r => keyR r.1 := fun hh => by
        obtain ⟨q, hq, e⟩ := List.mem_map.mp hh
        have e := keyR_inj e
        rw [hdn, List.map_append, List.map_cons] at nd
        exact (List.nodup_append.mp nd).2.2 q.1 (List.mem_map.mpr ⟨q, (List.mem_filter.mp hq).1, rfl⟩) r.1 List.mem_cons_self e
      have test : rEqA true (encPl (r.1.take p.length)) (encPl p) (S ++ [.dct ((dn.filter (offP p)).map fun r => keyR r.1) ((dn.filter (offP p)).map fun r => valR r.2)]) fun x S2 => match x with
          | .bl b => (match b with
            | true => rDPutA (.ref S.length) (encPl r.1) (valR r.2) S2 fun S4 => nx [some (rowsD l), some (encPl p), some (enc o), some (.ref S.length), some (encPl r.1), some (valR r.2)] S4
            | false => nx [some (rowsD l), some (encPl p), some (enc o), some (.ref S.length), some (encPl r.1), some (valR r.2)] S2)
          | _ => False := by
        refine eqPl_i ?_
        dsimp only
        by_cases hp : r.1.take p.length = p
        · have e1 : (dn ++ [r]).filter (offP p) = dn.filter (offP p) := by
            rw [List.filter_append, List.filter_cons_of_neg (by simpa using hp)]
            simp
          rw [decide_eq_true hp]
          refine hnx _ _ ⟨_, _, rfl, ?_⟩
          rw [e1]
        · have e1 : (dn ++ [r]).filter (offP p) = dn.filter (offP p) ++ [r] := by
            rw [List.filter_append, List.filter_cons_of_pos (by simpa using hp)]
            rfl
          rw [decide_eq_false hp]
          refine dput_i (sto_new _ _) fit_all (by rw [List.length_map]; omega) hk ?_
          rw [snoc_set]
          refine hnx _ _ ⟨_, _, rfl, ?_⟩
          rw [e1, List.map_append, List.map_append]
          rfl
      have sl : rEqA true (.tup (cutA (r.1.map AV.int) none (some ((p.map AV.int).length : Nat)))) (encPl p) (S ++ [.dct ((dn.filter (offP p)).map fun r => keyR r.1) ((dn.filter (offP p)).map fun r => valR r.2)]) fun x S2 => match x with
          | .bl b => (match b with
            | true => rDPutA (.ref S.length) (encPl r.1) (valR r.2) S2 fun S4 => nx [some (rowsD l), some (encPl p), some (enc o), some (.ref S.length), some (encPl r.1), some (valR r.2)] S4
            | false => nx [some (rowsD l), some (encPl p), some (enc o), some (.ref S.length), some (encPl r.1), some (valR r.2)] S2)
          | _ => False := by
        rw [List.length_map, take_cut]
        exact test
      exact sl
    · rintro ρ S' ⟨y4, y5, rfl, rfl⟩
      exact second y4 y5
  exact ⟨keys_t (perm_ne hl), first⟩
end HA.K7

/-! The law of changed terms. -/
namespace HA.K7
open PySem PySem.Spec PyProof.Rows L2 PySem.W
theorem dp_val (z : Nat × Tm) : dpA (valR z) ≤ 900 := by
  have h1 : dpA (sortsA z.2) ≤ 0 + 1 := dp_tup fun y hy => by
    obtain ⟨k, _, rfl⟩ := List.mem_map.mp hy
    rw [dp_int]
    omega
  have h2 : dpA (headT z.2).1 = 0 ∧ dpA (headT z.2).2 = 0 := by
    obtain ⟨n, x⟩ := z
    cases x with
    | name k => exact ⟨dp_str _, dp_int _⟩
    | sign w ps => exact ⟨dp_str _, dp_str _⟩
    | hole w ts => exact ⟨dp_str _, dp_str _⟩
  have : dpA (valR z) ≤ 1 + 1 := dp_tup fun y hy => by
    rcases List.mem_cons.mp hy with rfl | hy
    · omega
    · rcases List.mem_cons.mp hy with rfl | hy
      · omega
      · rcases List.mem_cons.mp hy with rfl | hy
        · omega
        · rcases List.mem_cons.mp hy with rfl | hy
          · rw [dp_int]; omega
          · cases hy
  omega
theorem sameD_of {A B : List Row} (hA : A ≠ []) (hB : B ≠ []) (hl : A.length = B.length) (ok : ∀ r ∈ A, okT r.2.2) (h : ∀ r ∈ A, ∃ r' ∈ B, r'.1 = r.1 ∧ valR r'.2 = valR r.2) :
    SameD (A.map fun r => keyR r.1) (A.map fun r => valR r.2) (B.map fun r => keyR r.1) (B.map fun r => valR r.2) := by
  refine ⟨keys_t hA, keys_t hB, by rw [List.length_map, List.length_map]; exact hl, fun i k x hk hx => ?_⟩
  rw [List.getElem?_map] at hk hx
  obtain ⟨r, hr, rfl⟩ := Option.map_eq_some_iff.mp hk
  rw [hr] at hx
  cases hx
  have hm := List.mem_of_getElem? hr
  obtain ⟨r', hr', e1, e2⟩ := h r hm
  obtain ⟨j, hj⟩ := List.mem_iff_getElem?.mp hr'
  have okv := val_ok (ok r hm)
  refine ⟨j, valR r'.2, by rw [List.getElem?_map, hj, ← e1]; rfl, by rw [List.getElem?_map, hj]; rfl, ?_, dp_val _, ?_⟩
  · rw [e2]
    exact ⟨okv, okv⟩
  · rw [e2]
    exact eqv_refl _ okv
theorem len_of_places {A B : List Row} (ha : (A.map (·.1)).Nodup) (hb : (B.map (·.1)).Nodup) (h : ∀ p, p ∈ A.map (·.1) ↔ p ∈ B.map (·.1)) : A.length = B.length := by
  have := ((List.perm_ext_iff_of_nodup ha hb).mpr h).length_eq
  rw [List.length_map, List.length_map] at this
  exact this
section
variable {t o : Tm} {p : Pl} {z : Nat × Tm} (hz : atT t p = some z)
include hz
theorem pre_take {q : Pl} : q.take p.length = p ↔ p <+: q := by
  rw [List.prefix_iff_eq_take]
  exact ⟨fun h => h.symm, fun h => h.symm⟩
theorem at_under (q : Pl) : atT (chT p t o) (p ++ q) = match atT o q with
    | some (c, y) => some (z.1 + c, y)
    | none => none := by
  rw [atT_app, at_ch p t o z hz]
  try dsimp only
  all_goals (cases atT o q <;> rfl)
theorem due_of {r : Row} (hr : r ∈ rowsT (chT p t o)) {l l' : List Row} (hl : l.Perm (rowsT t)) (hl' : l'.Perm (rowsT o)) : ∃ r' ∈ dueRows p z.1 l l', r'.1 = r.1 ∧ valR r'.2 = valR r.2 := by
  have ha := atT_row _ r hr
  by_cases hp : r.1.take p.length = p
  · have e : r.1 = p ++ r.1.drop p.length := by
      have := List.take_append_drop p.length r.1
      rw [hp] at this
      exact this.symm
    rw [e, at_under hz] at ha
    cases ho : atT o (r.1.drop p.length) with
    | none => rw [ho] at ha; cases ha
    | some w =>
      obtain ⟨c, y⟩ := w
      rw [ho] at ha
      have ha : (z.1 + c, y) = r.2 := Option.some.inj ha
      refine ⟨underP p z.1 (r.1.drop p.length, c, y), List.mem_append_right _ (List.mem_map.mpr ⟨_, hl'.mem_iff.mpr (row_at _ _ _ ho), rfl⟩), e.symm, ?_⟩
      rw [← ha]
      unfold underP valR
      dsimp only
      rw [Nat.add_comm c z.1]
  · have hs := at_else p t o z hz r.1 fun h => hp ((pre_take hz).mpr h)
    rw [ha] at hs
    cases ht : atT t r.1 with
    | none => rw [ht] at hs; exact hs.elim
    | some w =>
      obtain ⟨c, y⟩ := w
      rw [ht] at hs
      obtain ⟨h1, h2, h3⟩ := (show r.2.1 = c ∧ headT r.2.2 = headT y ∧ sortsT r.2.2 = sortsT y from hs)
      refine ⟨(r.1, c, y), List.mem_append_left _ (List.mem_filter.mpr ⟨hl.mem_iff.mpr (row_at _ _ _ ht), decide_eq_true hp⟩), rfl, ?_⟩
      unfold valR sortsA
      dsimp only
      rw [h1, h2, h3]
theorem due_back {r : Row} {l l' : List Row} (hl : l.Perm (rowsT t)) (hl' : l'.Perm (rowsT o)) (hr : r ∈ dueRows p z.1 l l') : r.1 ∈ placesT (chT p t o) := by
  rw [mem_places]
  rcases List.mem_append.mp hr with hr | hr
  · obtain ⟨h1, h2⟩ := List.mem_filter.mp hr
    have hp := of_decide_eq_true h2
    have ht := atT_row t r (hl.mem_iff.mp h1)
    have hs := at_else p t o z hz r.1 fun h => hp ((pre_take hz).mpr h)
    rw [ht] at hs
    cases hc : atT (chT p t o) r.1 with
    | none => rw [hc] at hs; exact hs.elim
    | some w => exact ⟨w, rfl⟩
  · obtain ⟨q, hq, rfl⟩ := List.mem_map.mp hr
    have ho := atT_row o q (hl'.mem_iff.mp hq)
    refine ⟨(z.1 + q.2.1, q.2.2), ?_⟩
    show atT (chT p t o) (p ++ q.1) = _
    rw [at_under hz, ho]
theorem due_nodup {l l' : List Row} (hl : l.Perm (rowsT t)) (hl' : l'.Perm (rowsT o)) : ((dueRows p z.1 l l').map (·.1)).Nodup := by
  unfold dueRows
  rw [List.map_append, List.nodup_append]
  refine ⟨(nodup_perm hl).sublist ((List.filter_sublist (p := offP p) (l := l)).map _), ?_, fun a ha b hb => ?_⟩
  · rw [List.map_map]
    have e : l'.map ((fun x : Row => x.1) ∘ underP p z.1) = (l'.map (·.1)).map fun q => p ++ q := by rw [List.map_map]; rfl
    rw [e]
    exact List.Pairwise.map _ (fun a b hab w => hab (List.append_cancel_left w)) (nodup_perm hl')
  · obtain ⟨r, hr, rfl⟩ := List.mem_map.mp ha
    obtain ⟨r', hr', rfl⟩ := List.mem_map.mp hb
    obtain ⟨q, hq, rfl⟩ := List.mem_map.mp hr'
    have hp := of_decide_eq_true (List.mem_filter.mp hr).2
    intro e
    rw [e] at hp
    exact hp (by simp [underP])
theorem due_same (ht : okT t) (ho : okT o) {l l' l2 : List Row} (hl : l.Perm (rowsT t)) (hl' : l'.Perm (rowsT o)) (h2 : l2.Perm (rowsT (chT p t o))) :
    SameD (l2.map fun r => keyR r.1) (l2.map fun r => valR r.2) ((dueRows p z.1 l l').map fun r => keyR r.1) ((dueRows p z.1 l l').map fun r => valR r.2) := by
  have n2 := perm_ne h2
  have all : ∀ r ∈ l2, ∃ r' ∈ dueRows p z.1 l l', r'.1 = r.1 ∧ valR r'.2 = valR r.2 := fun r hr => due_of hz (h2.mem_iff.mp hr) hl hl'
  refine sameD_of n2 (fun e => ?_) (len_of_places (nodup_perm h2) (due_nodup hz hl hl') fun q => ⟨fun h => ?_, fun h => ?_⟩) (fun r hr => okT_at _ (ok_ch p t o ht ho) r (h2.mem_iff.mp hr)) all
  · cases l2 with
    | nil => exact n2 rfl
    | cons r l2 =>
      obtain ⟨r', hr', _⟩ := all r List.mem_cons_self
      rw [e] at hr'
      cases hr'
  · obtain ⟨r, hr, rfl⟩ := List.mem_map.mp h
    obtain ⟨r', hr', e, _⟩ := all r hr
    exact List.mem_map.mpr ⟨r', hr', e⟩
  · obtain ⟨r, hr, rfl⟩ := List.mem_map.mp h
    exact (h2.map (·.1)).mem_iff.mpr (due_back hz hl hl' hr)
end
theorem self_same {t : Tm} (ht : okT t) {l l2 : List Row} (hl : l.Perm (rowsT t)) (h2 : l2.Perm (rowsT t)) : SameD (l2.map fun r => keyR r.1) (l2.map fun r => valR r.2) (l.map fun r => keyR r.1) (l.map fun r => valR r.2) :=
  sameD_of (perm_ne h2) (perm_ne hl) (h2.length_eq.trans hl.length_eq.symm) (fun r hr => okT_at t ht r (h2.mem_iff.mp hr)) fun r hr => ⟨r, hl.mem_iff.mpr (h2.mem_iff.mp hr), rfl, rfl⟩
theorem dk_rows (l : List Row) : (l.map fun r => keyR r.1).map dkAV = l.map fun r => encPl r.1 := by
  rw [List.map_map]
  refine List.map_congr_left fun r _ => ?_
  show AV.tup ((r.1.map Sum.inl).map kAV) = _
  rw [List.map_map]
  rfl
theorem keysA_rows (l : List Row) : KeysA ((l.map fun r => keyR r.1).map dkAV) := by
  have := keys_rows l
  have e : (l.map encRow).map keyRow = l.map fun r => encPl r.1 := by rw [List.map_map]; rfl
  rw [dk_rows, ← e]
  exact this
def lawTest7 (sp_rows sp_due : SpA) : ATT := aOrT (aB (aOp (rSameT true) (aCall sp_rows (aCons (aVar 8) aNil)) (aCall sp_due (aCons (aVar 5) (aCons (aVar 7) (aCons (aVar 4) aNil)))))) (aB (aOp (rSameT true) (aCall sp_rows (aCons (aVar 3) aNil)) (aVar 5)))
def lawEnd7 (sp_rows sp_ch sp_due sp_th : SpA) : ATS := aSeq (aIf (lawTest7 sp_rows sp_due) (aRet (aC (.bl false))) aNext) (aIf (aB (aOp (rEqA true) (aCall sp_ch (aCons (aVar 8) (aCons (aVar 7) (aCons (aCall sp_th (aCons (aVar 3) (aCons (aVar 7) aNil))) aNil)))) (aVar 3))) (aRet (aC (.bl false))) aNext)
theorem law_end7 {t o : Tm} {p : Pl} {z : Nat × Tm} (hz : atT t p = some z) (ft : Fit t) (go : Good 4 o) {l : List Row} (hl : l.Perm (rowsT t)) {v0 v1 v2 v6 : Option AV} {S : Sto} {D : AEnds}
    (q : D.nx [v0, v1, v2, some (enc t), some (enc o), some (rowsD l), v6, some (encPl p), some (enc (chT p t o))] S) :
    lawEnd7 sp_rows (sp_ch 60) sp_due sp_there D [v0, v1, v2, some (enc t), some (enc o), some (rowsD l), v6, some (encPl p), some (enc (chT p t o))] S := by
  have d1 := dep_ch p t o
  have d2 := size_ch p t o
  have f1 := ft.dp
  have f2 := ft.sz
  have g1 := go.1
  have g2 : sizeT o ≤ 4 ^ (4 + 1) := go.2.1
  have ft' : FitR t := ⟨ft.ok, by omega, by omega⟩
  have fo' : FitR o := ⟨go.2.2, by omega, by omega⟩
  have okc := ok_ch p t o ft.ok go.2.2
  have fc : FitR (chT p t o) := ⟨okc, by omega, by omega⟩
  refine ⟨chT p t o, rfl, fc, fun l2 h2 => ⟨t, o, p, z, l, rfl, hl, hz, ft', fo', fun l' hl' => ?_⟩⟩
  refine ⟨_, _, _, _, rfl, rfl, due_same hz ft.ok go.2.2 hl hl' h2, t, rfl, ft', fun l3 h3 => ?_⟩
  refine ⟨_, _, _, _, rfl, rfl, self_same ft.ok hl h3, ?_⟩
  refine ⟨t, p, z, rfl, hz, chT p t o, p, z.2, (z.1, o), rfl, by omega, ⟨okc, okT_at t ft.ok _ (row_at p t z hz)⟩, by omega, at_ch p t o z hz, ?_⟩
  rw [ch_back p t o z hz]
  have last : rEqA true (enc t) (enc t) S fun x S1 => match x with
      | .bl b => (match b with
        | true => D.rt (.bl false) S1
        | false => D.nx [v0, v1, v2, some (enc t), some (enc o), some (rowsD l), v6, some (encPl p), some (enc (chT p t o))] S1)
      | _ => False := by
    refine eqSame_i (a := enc t) (by cases t <;> rfl) (by cases t <;> rfl) (okD_enc t ft.ok) (by have := dp_enc t; omega) q
  exact last
end HA.K7

/-! The law of changed terms: the law. -/
namespace HA.K7
open PySem PySem.Spec PyProof.Rows L2 PySem.W
def lawTail7 (sp_mix sp_rows sp_ch sp_due sp_th : SpA) : ATS := aSeq (aSet 5 (aCall sp_rows (aCons (aVar 3) aNil))) (aSeq (aSet 6 (aCall rSortTA (aCons (aVar 5) aNil))) (aSeq (aSet 7 (aOp rIxA (aVar 6) (aOp rModA (aCall sp_mix (aCons (aVar 2) (aCons (aC (.int 41)) aNil))) (aCall rLenA (aCons (aVar 6) aNil))))) (aSeq (aSet 8 (aCall sp_ch (aCons (aVar 3) (aCons (aVar 7) (aCons (aVar 4) aNil))))) (lawEnd7 sp_rows sp_ch sp_due sp_th))))
def lawBody7 (sp_cell sp_mix sp_drawn sp_grown sp_rows sp_ch sp_due sp_th : SpA) : ATS := aSeq (aSet 2 (aCall sp_cell (aCons (aVar 0) (aCons (aVar 1) aNil)))) (aSeq (aSet 3 (aCall sp_grown (aCons (aCall sp_drawn (aCons (aSl false (aVar 0) (aPart (aVar 1)) aNoPart) (aCons (aOp rModA (aCall sp_mix (aCons (aVar 2) (aCons (aC (.int 40)) aNil))) (aC (.int 4))) (aCons (aVar 2) aNil)))) (aCons (aCall sp_mix (aCons (aVar 2) (aCons (aC (.int 48)) aNil))) aNil)))) (aSeq (aSet 4 (aCall sp_drawn (aCons (aSl false (aVar 0) (aPart (aOp rAddA (aVar 1) (aC (.int 1)))) (aPart (aOp rAddA (aVar 1) (aC (.int 4))))) (aCons (aC (.int 2)) (aCons (aVar 2) aNil))))) (lawTail7 sp_mix sp_rows sp_ch sp_due sp_th)))
theorem sorted_rows {l : List Row} {y : AV} (h : y ∈ sortA id ((l.map fun r => keyR r.1).map dkAV)) : ∃ r ∈ l, y = encPl r.1 := by
  have h := (List.mergeSort_perm _ _).mem_iff.mp h
  rw [dk_rows] at h
  obtain ⟨r, hr, e⟩ := List.mem_map.mp h
  exact ⟨r, hr, e.symm⟩
theorem law_tail7 {t o : Tm} (ft : Fit t) (go : Good 4 o) {v0 v1 x5 x6 x7 x8 : Option AV} {seed : Int} {S : Sto} {D : AEnds}
    (q : ∀ z5 z6 z7 z8, D.nx [v0, v1, some (.int seed), some (enc t), some (enc o), z5, z6, z7, z8] S) :
    lawTail7 sp_mix sp_rows (sp_ch 60) sp_due sp_there D [v0, v1, some (.int seed), some (enc t), some (enc o), x5, x6, x7, x8] S := by
  have f1 := ft.dp
  have f2 := ft.sz
  refine ⟨t, rfl, ⟨ft.ok, by omega, by omega⟩, fun l hl => ?_⟩
  refine ⟨_, _, rfl, keys_t (perm_ne hl), keysA_rows l, ?_⟩
  obtain ⟨sp, hsp⟩ : ∃ sp, sp = sortA id ((l.map fun r => keyR r.1).map dkAV) := ⟨_, rfl⟩
  have hlen : sp.length = l.length := by rw [hsp, List.length_mergeSort, List.length_map, List.length_map]
  have hpos : 0 < sp.length := by
    rw [hlen]
    exact List.length_pos_iff.mpr (perm_ne hl)
  rw [← hsp]
  refine ⟨seed, 41, rfl, by decide, by decide, fun r h1 h2 => ?_⟩
  have c := fmod_in (a := r) (m := (sp.length : Int)) (by omega)
  obtain ⟨i, hi⟩ : ∃ i : Nat, r.fmod (sp.length : Int) = i := ⟨(r.fmod (sp.length : Int)).toNat, by omega⟩
  have hil : i < sp.length := by omega
  have hy : sp[i]? = some (sp[i]'hil) := List.getElem?_eq_getElem hil
  obtain ⟨w, hw, ey⟩ := sorted_rows (l := l) (y := sp[i]'hil) (by rw [← hsp]; exact List.getElem_mem hil)
  rw [ey] at hy
  have hz : atT t w.1 = some w.2 := atT_row t w (hl.mem_iff.mp hw)
  have okt := ft.ok
  have rest : aSeq (aSet 8 (aCall (sp_ch 60) (aCons (aVar 3) (aCons (aVar 7) (aCons (aVar 4) aNil))))) (lawEnd7 sp_rows (sp_ch 60) sp_due sp_there) D [v0, v1, some (.int seed), some (enc t), some (enc o), some (rowsD l), some (.fl sp), some (encPl w.1), x8] S :=
    ⟨t, w.1, o, w.2, rfl, by omega, ⟨ft.ok, go.2.2⟩, by omega, hz, law_end7 hz ft go hl (q _ _ _ _)⟩
  have ix : rIxA (.fl sp) (.int (r.fmod (sp.length : Int))) S fun x S1 => aSeq (aSet 8 (aCall (sp_ch 60) (aCons (aVar 3) (aCons (aVar 7) (aCons (aVar 4) aNil))))) (lawEnd7 sp_rows (sp_ch 60) sp_due sp_there) D [v0, v1, some (.int seed), some (enc t), some (enc o), some (rowsD l), some (.fl sp), some x, x8] S1 := by
    rw [hi]
    exact rIxA_i (xs := sp) (y := encPl w.1) rfl (show sp[i]? = some (encPl w.1) from hy) rest
  have md : rModA (.int r) (.int (sp.length : Int)) S fun y S1 => rIxA (.fl sp) y S1 fun x S1 => aSeq (aSet 8 (aCall (sp_ch 60) (aCons (aVar 3) (aCons (aVar 7) (aCons (aVar 4) aNil))))) (lawEnd7 sp_rows (sp_ch 60) sp_due sp_there) D [v0, v1, some (.int seed), some (enc t), some (enc o), some (rowsD l), some (.fl sp), some x, x8] S1 :=
    ⟨by omega, ix⟩
  exact md
theorem law_body7 {ns : List Int} {k : Int} (hk : 0 ≤ k) {y2 y3 y4 y5 y6 y7 y8 : Option AV} {S : Sto} {D : AEnds} (fin : ∀ z2 z3 z4 z5 z6 z7 z8, D.nx [some (.sl (ns.map AV.int)), some (.int k), z2, z3, z4, z5, z6, z7, z8] S) :
    lawBody7 sp_cell sp_mix sp_drawn sp_grown sp_rows (sp_ch 60) sp_due sp_there D [some (.sl (ns.map AV.int)), some (.int k), y2, y3, y4, y5, y6, y7, y8] S := by
  refine ⟨ns, k, rfl, hk, fun seed => ?_⟩
  refine ⟨seed, 40, rfl, by decide, by decide, fun r1 h1 _ => ⟨(by decide : (4 : Int) ≠ 0), ?_⟩⟩
  have c := fmod_in (a := r1) (m := 4) (by decide)
  obtain ⟨n, hn⟩ : ∃ n : Nat, r1.fmod 4 = n := ⟨(r1.fmod 4).toNat, by omega⟩
  refine ⟨cutA ns (some k) none, n, seed, ?_, by omega, fun t0 g => ?_⟩
  · show [AV.fl (cutA (ns.map AV.int) (some k) none), AV.int (r1.fmod 4), AV.int seed] = _
    rw [cutA_map, hn]
  refine ⟨seed, 48, rfl, by decide, by decide, fun r2 h2 _ => ⟨t0, r2, rfl, h2, g, fun t ft => ?_⟩⟩
  refine ⟨cutA ns (some (k + 1)) (some (k + 4)), 2, seed, ?_, by decide, fun o go => ?_⟩
  · show [AV.fl (cutA (ns.map AV.int) (some (k + 1)) (some (k + 4))), AV.int 2, AV.int seed] = _
    rw [cutA_map]
    rfl
  exact law_tail7 ft go fun z5 z6 z7 z8 => fin _ _ _ _ _ _ _
theorem wp_law (xs : List AV) (S : Sto) (Q : AQ) (h : spLawA 63 xs S Q) : b_law sp_cell sp_mix sp_drawn sp_grown sp_rows (sp_ch 60) sp_due sp_there (D0 S Q) (startA 9 xs) S := by
  obtain ⟨ns, rfl, hl, h⟩ := h
  have loop : ∀ n, aSeq (fun D ρ S => forA (fun _ => True) (gNm 1) (lawBody7 sp_cell sp_mix sp_drawn sp_grown sp_rows (sp_ch 60) sp_due sp_there) (rgA 0 6 n) D ρ S) (aRet (aC (.bl true))) (D0 S Q) [some (.sl (ns.map AV.int)), none, none, none, none, none, none, none, none] S := fun n => by
    refine forA_inv (l := List.range n) (done := []) (e := fun i : Nat => .int (0 + (i : Int) * 6)) (fun dn ρ S' => ∃ y1 y2 y3 y4 y5 y6 y7 y8, ρ = [some (.sl (ns.map AV.int)), y1, y2, y3, y4, y5, y6, y7, y8] ∧ S' = S) (fun _ _ _ _ => trivial) rfl ⟨none, none, none, none, none, none, none, none, rfl, rfl⟩ ?_ ?_
    · rintro dn i r ρ S' hl ⟨y1, y2, y3, y4, y5, y6, y7, y8, rfl, rfl⟩ nx hnx
      exact law_body7 (ns := ns) (k := 0 + (i : Int) * 6) (by omega) fun z2 z3 z4 z5 z6 z7 z8 => hnx _ _ ⟨_, _, _, _, _, _, _, _, rfl, rfl⟩
    · rintro ρ S' ⟨y1, y2, y3, y4, y5, y6, y7, y8, rfl, rfl⟩
      exact .inl (h _)
  obtain ⟨j, hj⟩ : ∃ j : Int, j = (if (if (63 : Int) < ((ns.map AV.int).length : Int) then (63 : Int) else ((ns.map AV.int).length : Int)) > 1 then (if (63 : Int) < ((ns.map AV.int).length : Int) then (63 : Int) else ((ns.map AV.int).length : Int)) else 1) := ⟨_, rfl⟩
  have hj2 : 0 ≤ j ∧ j < 64 := by
    rw [hj]
    split <;> split <;> omega
  obtain ⟨n, hn⟩ := rg6C hj2.1 hj2.2
  rw [hj] at hn
  exact ⟨n, hn, loop n⟩
end HA.K7

namespace HA.K7
open PySem PySem.Spec PyProof.Rows L2
def topS (i : Nat) : Stmt := PySem.Challenge.pw_holeform_k07_changed.main.body.getD i (.Pass ⟨0, 0, 0, 0⟩)
section
variable {P : Program} {w : World} {K : PySem.W.Frag} {mg : Str → Option Value} {base : Heap}
abbrev st_changed : Stmt := topS 1
abbrev ns_changed : List Str := ["term", "place", "other", "parts", "k", "many", "inner"]
abbrev ps_changed : List Str := ["term", "place", "other"]
theorem sc_changed : FnScope ns_changed ps_changed (defScope st_changed) := ⟨rfl, rfl, rfl, by decide +kernel, rfl, by decide +kernel, by decide +kernel⟩
abbrev st__law_cell_at : Stmt := topS 3
abbrev ns__law_cell_at : List Str := ["_law_script", "_law_k"]
abbrev ps__law_cell_at : List Str := ["_law_script", "_law_k"]
theorem sc__law_cell_at : FnScope ns__law_cell_at ps__law_cell_at (defScope st__law_cell_at) := ⟨rfl, rfl, rfl, by decide +kernel, rfl, by decide +kernel, by decide +kernel⟩
abbrev st__law_mix : Stmt := topS 4
abbrev ns__law_mix : List Str := ["_law_cell", "_law_place", "_law_first"]
abbrev ps__law_mix : List Str := ["_law_cell", "_law_place"]
theorem sc__law_mix : FnScope ns__law_mix ps__law_mix (defScope st__law_mix) := ⟨rfl, rfl, rfl, by decide +kernel, rfl, by decide +kernel, by decide +kernel⟩
abbrev st__law_words : Stmt := topS 5
abbrev ns__law_words : List Str := ["_law_cell", "_law_many", "_law_letters", "_law_length", "_law_stem", "_law_spot", "_law_first", "_law_k"]
abbrev ps__law_words : List Str := ["_law_cell", "_law_many"]
theorem sc__law_words : FnScope ns__law_words ps__law_words (defScope st__law_words) := ⟨rfl, rfl, rfl, by decide +kernel, rfl, by decide +kernel, by decide +kernel⟩
abbrev st__law_free : Stmt := topS 6
abbrev ns__law_free : List Str := ["_law_cell", "_law_place"]
abbrev ps__law_free : List Str := ["_law_cell", "_law_place"]
theorem sc__law_free : FnScope ns__law_free ps__law_free (defScope st__law_free) := ⟨rfl, rfl, rfl, by decide +kernel, rfl, by decide +kernel, by decide +kernel⟩
abbrev st__law_leaf : Stmt := topS 7
abbrev ns__law_leaf : List Str := ["_law_number", "_law_scope", "_law_words_here"]
abbrev ps__law_leaf : List Str := ["_law_number", "_law_scope", "_law_words_here"]
theorem sc__law_leaf : FnScope ns__law_leaf ps__law_leaf (defScope st__law_leaf) := ⟨rfl, rfl, rfl, by decide +kernel, rfl, by decide +kernel, by decide +kernel⟩
abbrev st__law_term : Stmt := topS 8
abbrev ns__law_term : List Str := ["_law_cells", "_law_scope", "_law_words_here", "_law_holes", "_law_deep", "_law_number", "_law_left", "_law_way", "_law_parts", "_law_k", "_law_some", "_law_many", "_law_word", "_law_one"]
abbrev ps__law_term : List Str := ["_law_cells", "_law_scope", "_law_words_here", "_law_holes", "_law_deep"]
theorem sc__law_term : FnScope ns__law_term ps__law_term (defScope st__law_term) := ⟨rfl, rfl, rfl, by decide +kernel, rfl, by decide +kernel, by decide +kernel⟩
abbrev st__law_drawn : Stmt := topS 9
abbrev ns__law_drawn : List Str := ["_law_cells", "_law_scope", "_law_seed", "_law_words_here", "_law_holes", "_law_k"]
abbrev ps__law_drawn : List Str := ["_law_cells", "_law_scope", "_law_seed"]
theorem sc__law_drawn : FnScope ns__law_drawn ps__law_drawn (defScope st__law_drawn) := ⟨rfl, rfl, rfl, by decide +kernel, rfl, by decide +kernel, by decide +kernel⟩
abbrev st__law_grown : Stmt := topS 10
abbrev ns__law_grown : List Str := ["_law_term_here", "_law_number", "_law_leaf_here", "_law_parts", "_law_k"]
abbrev ps__law_grown : List Str := ["_law_term_here", "_law_number"]
theorem sc__law_grown : FnScope ns__law_grown ps__law_grown (defScope st__law_grown) := ⟨rfl, rfl, rfl, by decide +kernel, rfl, by decide +kernel, by decide +kernel⟩
abbrev st__law_inner : Stmt := topS 11
abbrev ns__law_inner : List Str := ["_law_term_here", "_law_one"]
abbrev ps__law_inner : List Str := ["_law_term_here"]
theorem sc__law_inner : FnScope ns__law_inner ps__law_inner (defScope st__law_inner) := ⟨rfl, rfl, rfl, by decide +kernel, rfl, by decide +kernel, by decide +kernel⟩
abbrev st__law_rows : Stmt := topS 12
abbrev ns__law_rows : List Str := ["_law_term_here", "_law_rows_here", "_law_waiting", "_law_sorts", "_law_one", "_law_bound", "_law_spot", "_law_k", "_law_part", "_law_many", "_law_below"]
abbrev ps__law_rows : List Str := ["_law_term_here"]
theorem sc__law_rows : FnScope ns__law_rows ps__law_rows (defScope st__law_rows) := ⟨rfl, rfl, rfl, by decide +kernel, rfl, by decide +kernel, by decide +kernel⟩
abbrev st__law_due : Stmt := topS 13
abbrev ns__law_due : List Str := ["_law_rows_here", "_law_spot", "_law_other", "_law_due_here", "_law_where", "_law_row"]
abbrev ps__law_due : List Str := ["_law_rows_here", "_law_spot", "_law_other"]
theorem sc__law_due : FnScope ns__law_due ps__law_due (defScope st__law_due) := ⟨rfl, rfl, rfl, by decide +kernel, rfl, by decide +kernel, by decide +kernel⟩
abbrev st__law_there : Stmt := topS 14
abbrev ns__law_there : List Str := ["_law_term_here", "_law_spot", "_law_k"]
abbrev ps__law_there : List Str := ["_law_term_here", "_law_spot"]
theorem sc__law_there : FnScope ns__law_there ps__law_there (defScope st__law_there) := ⟨rfl, rfl, rfl, by decide +kernel, rfl, by decide +kernel, by decide +kernel⟩
abbrev st_law : Stmt := topS 15
abbrev ns_law : List Str := ["_law_script", "_law_k", "_law_seed", "_law_term_here", "_law_other", "_law_rows_here", "_law_spots", "_law_spot", "_law_found"]
abbrev ps_law : List Str := ["_law_script"]
theorem sc_law : FnScope ns_law ps_law (defScope st_law) := ⟨rfl, rfl, rfl, by decide +kernel, rfl, by decide +kernel, by decide +kernel⟩
theorem d_changed {cdv : Value} {A : Around} {outer : List Env} {s : Shared} {H : Hp} {E : XK} {f : Addr} {k : Nat} {sp_changed : SpA} (hr : Room k (A.deeper (envOfC "changed" (defScope st_changed) s.heap.objs.size f cdv))) (hk : 50 ≤ k) (B : Blt mg) (C_changed : Callee P w K mg base "changed" ps_changed k sp_changed) :
    SSs (cxOf CX0 P w K mg base ns_changed "changed" (defScope st_changed) f cdv A outer s H E).nox (defBody st_changed) (b_changed sp_changed) := by
  have hN : ns_changed.Nodup := sc_changed.nd
  exact ss_cons (ss_if (st_cmp (op_eqA (hu_room hr hk)) (sv 1) (se_tup sa_nil)) (ss_one (ss_ret (sv 2))) ss_nil) (ss_cons (ss_set (i := 3) hN rfl (by first | exact Or.inl rfl | exact Or.inr rfl) (se_callTy (cr_listA true) (by rfl) B.list_ (by decide +kernel) (sa_cons (se_ix ix_A (sv 0) se_int) sa_nil))) (ss_cons (ss_set (i := 4) hN rfl (by first | exact Or.inl rfl | exact Or.inr rfl) (se_ix ix_A (sv 1) se_int)) (ss_cons (ss_if (st_cmp (op_eqA (hu_room hr hk)) (se_ix ix_A (sv 0) se_int) se_str) (ss_one (ss_setIx (C_changed.se hr (sa_cons (se_ix ix_A (sv 3) (sv 4)) (sa_cons (se_slice false (sv 1) (so_some se_int) so_none) (sa_cons (sv 2) sa_nil)))) (sv 3) (sv 4) set_listA)) (ss_cons (ss_asg (se_ix ix_A (sv 3) (sv 4)) (sg_tup rfl (sgs_cons (sg_name (i := 5) hN rfl (by first | exact Or.inl rfl | exact Or.inr rfl)) (sgs_cons (sg_name (i := 6) hN rfl (by first | exact Or.inl rfl | exact Or.inr rfl)) sgs_nil)))) (ss_one (ss_setIx (se_tup (sa_cons (sv 5) (sa_cons (C_changed.se hr (sa_cons (sv 6) (sa_cons (se_slice false (sv 1) (so_some se_int) so_none) (sa_cons (sv 2) sa_nil)))) sa_nil))) (sv 3) (sv 4) set_listA)))) (ss_one (ss_ret (se_tup (sa_cons (se_ix ix_A (sv 0) se_int) (sa_cons (se_ix ix_A (sv 0) se_int) (sa_cons (se_callTy cr_tupA (by rfl) B.tuple_ (by decide +kernel) (sa_cons (sv 3) sa_nil)) sa_nil)))))))))

theorem d__law_cell_at {cdv : Value} {A : Around} {outer : List Env} {s : Shared} {H : Hp} {E : XK} {f : Addr} {k : Nat} (hr : Room k (A.deeper (envOfC "_law_cell_at" (defScope st__law_cell_at) s.heap.objs.size f cdv))) (hk : 50 ≤ k) (B : Blt mg) :
    SSs (cxOf CX0 P w K mg base ns__law_cell_at "_law_cell_at" (defScope st__law_cell_at) f cdv A outer s H E).nox (defBody st__law_cell_at) (b__law_cell_at) := by
  have hN : ns__law_cell_at.Nodup := sc__law_cell_at.nd
  exact ss_cons (ss_if (st_cmp op_ltA (sv 1) (se_callB cr_lenA (by rfl) B.len_ (by decide +kernel) (sa_cons (sv 0) sa_nil))) (ss_one (ss_ret (se_ix ix_A (sv 0) (sv 1)))) ss_nil) (ss_one (ss_ret se_int))

theorem d__law_mix {cdv : Value} {A : Around} {outer : List Env} {s : Shared} {H : Hp} {E : XK} {f : Addr} {k : Nat} (hr : Room k (A.deeper (envOfC "_law_mix" (defScope st__law_mix) s.heap.objs.size f cdv))) (hk : 50 ≤ k) (B : Blt mg) :
    SSs (cxOf CX0 P w K mg base ns__law_mix "_law_mix" (defScope st__law_mix) f cdv A outer s H E).nox (defBody st__law_mix) (b__law_mix) := by
  have hN : ns__law_mix.Nodup := sc__law_mix.nd
  exact ss_cons (ss_set (i := 2) hN rfl (by first | exact Or.inl rfl | exact Or.inr rfl) (se_op op_modA (se_op op_mulA (se_op op_addA (se_op op_modA (sv 0) (se_op op_powA se_int se_int)) se_int) (se_op op_addA se_int (se_op op_mulA se_int (sv 1)))) se_int)) (ss_one (ss_ret (se_op op_modA (se_op op_mulA (sv 2) (sv 2)) se_int)))

theorem d__law_words {cdv : Value} {A : Around} {outer : List Env} {s : Shared} {H : Hp} {E : XK} {f : Addr} {k : Nat} {sp__law_mix : SpA} (hr : Room k (A.deeper (envOfC "_law_words" (defScope st__law_words) s.heap.objs.size f cdv))) (hk : 50 ≤ k) (B : Blt mg) (C__law_mix : Callee P w K mg base "_law_mix" ps__law_mix k sp__law_mix) :
    SSs (cxOf CX0 P w K mg base ns__law_words "_law_words" (defScope st__law_words) f cdv A outer s H E).nox (defBody st__law_words) (b__law_words sp__law_mix) := by
  have hN : ns__law_words.Nodup := sc__law_words.nd
  exact ss_cons (ss_set (i := 2) hN rfl (by first | exact Or.inl rfl | exact Or.inr rfl) se_str) (ss_cons (ss_set (i := 3) hN rfl (by first | exact Or.inl rfl | exact Or.inr rfl) (se_op op_addA se_int (se_op op_modA (C__law_mix.se hr (sa_cons (sv 0) (sa_cons se_int sa_nil))) se_int))) (ss_cons (ss_set (i := 4) hN rfl (by first | exact Or.inl rfl | exact Or.inr rfl) (se_bmS PySem.F.plainAttrs_str PySem.F.slot_str_join PySem.F.type_str_join mt_joinA se_str (sa_cons (se_comp (own := [("_law_k", 7)]) rfl hN (si_range1 (by rfl) B.range_ (sa_cons (sv 3) sa_nil)) (blkOk_by (N := ns__law_words) (sc := (defScope st__law_words)) (own := [("_law_k", 7)]) (by decide +kernel)) (fun _ _ _ _ _ => sg_name (i := 7) hN rfl (by first | exact Or.inl rfl | exact Or.inr rfl)) (fun _ _ _ _ _ => sts_nil) (fun _ _ _ _ _ => se_ix ix_A (sv 2) (se_op op_modA (C__law_mix.se hr (sa_cons (sv 0) (sa_cons (se_op op_addA se_int (sv 7)) sa_nil))) se_int))) sa_nil))) (ss_cons (ss_set (i := 5) hN rfl (by first | exact Or.inl rfl | exact Or.inr rfl) (se_op op_modA (C__law_mix.se hr (sa_cons (sv 0) (sa_cons se_int sa_nil))) (sv 3))) (ss_cons (ss_set (i := 6) hN rfl (by first | exact Or.inl rfl | exact Or.inr rfl) (se_op op_modA (C__law_mix.se hr (sa_cons (sv 0) (sa_cons se_int sa_nil))) se_int)) (ss_one (ss_ret (se_comp (own := [("_law_k", 7)]) rfl hN (si_range1 (by rfl) B.range_ (sa_cons (sv 1) sa_nil)) (blkOk_by (N := ns__law_words) (sc := (defScope st__law_words)) (own := [("_law_k", 7)]) (by decide +kernel)) (fun _ _ _ _ _ => sg_name (i := 7) hN rfl (by first | exact Or.inl rfl | exact Or.inr rfl)) (fun _ _ _ _ _ => sts_nil) (fun _ _ _ _ _ => se_op op_addA (se_op op_addA (se_slice false (sv 4) so_none (so_some (sv 5))) (se_ix ix_A (sv 2) (se_op op_modA (se_op op_addA (sv 6) (se_op op_mulA se_int (sv 7))) se_int))) (se_slice false (sv 4) (so_some (se_op op_addA (sv 5) se_int)) so_none)))))))))

theorem d__law_free {cdv : Value} {A : Around} {outer : List Env} {s : Shared} {H : Hp} {E : XK} {f : Addr} {k : Nat} {sp__law_mix : SpA} (hr : Room k (A.deeper (envOfC "_law_free" (defScope st__law_free) s.heap.objs.size f cdv))) (hk : 50 ≤ k) (B : Blt mg) (C__law_mix : Callee P w K mg base "_law_mix" ps__law_mix k sp__law_mix) :
    SSs (cxOf CX0 P w K mg base ns__law_free "_law_free" (defScope st__law_free) f cdv A outer s H E).nox (defBody st__law_free) (b__law_free sp__law_mix) := by
  have hN : ns__law_free.Nodup := sc__law_free.nd
  exact ss_cons (ss_if (st_cmp (op_eqA (hu_room hr hk)) (se_op op_modA (sv 0) se_int) se_int) (ss_one (ss_ret (se_op op_modA (se_op op_fdivA (sv 0) se_int) (se_op op_powA se_int se_int)))) ss_nil) (ss_one (ss_ret (C__law_mix.se hr (sa_cons (se_op op_fdivA (sv 0) se_int) (sa_cons (sv 1) sa_nil)))))

theorem d__law_leaf {cdv : Value} {A : Around} {outer : List Env} {s : Shared} {H : Hp} {E : XK} {f : Addr} {k : Nat} (hr : Room k (A.deeper (envOfC "_law_leaf" (defScope st__law_leaf) s.heap.objs.size f cdv))) (hk : 50 ≤ k) (B : Blt mg) :
    SSs (cxOf CX0 P w K mg base ns__law_leaf "_law_leaf" (defScope st__law_leaf) f cdv A outer s H E).nox (defBody st__law_leaf) (b__law_leaf) := by
  have hN : ns__law_leaf.Nodup := sc__law_leaf.nd
  exact ss_cons (ss_if (SW.st (sw_and (st_cmp op_gtA (sv 1) se_int) (sw_and1 (st_cmp op_ltA (se_op op_modA (sv 0) se_int) se_int)))) (ss_one (ss_ret (se_tup (sa_cons se_str (sa_cons (se_op op_modA (se_op op_fdivA (sv 0) se_int) (sv 1)) sa_nil))))) ss_nil) (ss_one (ss_ret (se_tup (sa_cons se_str (sa_cons (se_ix ix_A (sv 2) (se_op op_modA (se_op op_fdivA (sv 0) se_int) se_int)) (sa_cons (se_tup sa_nil) sa_nil))))))

theorem d__law_term {cdv : Value} {A : Around} {outer : List Env} {s : Shared} {H : Hp} {E : XK} {f : Addr} {k : Nat} {sp__law_free sp__law_leaf sp__law_term : SpA} (hr : Room k (A.deeper (envOfC "_law_term" (defScope st__law_term) s.heap.objs.size f cdv))) (hk : 50 ≤ k) (B : Blt mg) (C__law_free : Callee P w K mg base "_law_free" ps__law_free k sp__law_free) (C__law_leaf : Callee P w K mg base "_law_leaf" ps__law_leaf k sp__law_leaf) (C__law_term : Callee P w K mg base "_law_term" ps__law_term k sp__law_term) :
    SSs (cxOf CX0 P w K mg base ns__law_term "_law_term" (defScope st__law_term) f cdv A outer s H E).nox (defBody st__law_term) (b__law_term sp__law_free sp__law_leaf sp__law_term) := by
  have hN : ns__law_term.Nodup := sc__law_term.nd
  exact ss_cons (ss_if (SW.st (sw_or (st_cmp (op_eqA (hu_room hr hk)) (sv 0) (se_lst false sa_nil)) (sw_or1 (st_cmp (op_eqA (hu_room hr hk)) (sv 4) se_int)))) (ss_one (ss_ret (se_tup (sa_cons (C__law_leaf.se hr (sa_cons (C__law_free.se hr (sa_cons (se_callB (cr_sumA rfl) (by rfl) B.sum_ (by decide +kernel) (sa_cons (se_slice false (sv 0) so_none (so_some se_int)) sa_nil)) (sa_cons se_int sa_nil))) (sa_cons (sv 1) (sa_cons (sv 2) sa_nil)))) (sa_cons (se_slice false (sv 0) (so_some se_int) so_none) sa_nil))))) ss_nil) (ss_cons (ss_set (i := 5) hN rfl (by first | exact Or.inl rfl | exact Or.inr rfl) (C__law_free.se hr (sa_cons (se_ix ix_A (sv 0) se_int) (sa_cons se_int sa_nil)))) (ss_cons (ss_set (i := 6) hN rfl (by first | exact Or.inl rfl | exact Or.inr rfl) (se_slice false (sv 0) (so_some se_int) so_none)) (ss_cons (ss_set (i := 7) hN rfl (by first | exact Or.inl rfl | exact Or.inr rfl) (se_op op_modA (sv 5) se_int)) (ss_cons (ss_set (i := 5) hN rfl (by first | exact Or.inl rfl | exact Or.inr rfl) (se_op op_fdivA (sv 5) se_int)) (ss_cons (ss_if (st_cmp op_ltA (sv 7) se_int) (ss_one (ss_ret (se_tup (sa_cons (C__law_leaf.se hr (sa_cons (sv 5) (sa_cons (sv 1) (sa_cons (sv 2) sa_nil)))) (sa_cons (sv 6) sa_nil))))) ss_nil) (ss_cons (ss_if (SW.st (sw_and (st_cmp op_ltA (sv 7) se_int) (sw_and1 (st_cmp (op_neA (hu_room hr hk)) (sv 3) (se_lst false sa_nil))))) (ss_cons (ss_asg (se_ix ix_A (sv 3) (se_op op_modA (sv 5) (se_callB cr_lenA (by rfl) B.len_ (by decide +kernel) (sa_cons (sv 3) sa_nil)))) (sg_tup rfl (sgs_cons (sg_name (i := 12) hN rfl (by first | exact Or.inl rfl | exact Or.inr rfl)) (sgs_cons (sg_name (i := 11) hN rfl (by first | exact Or.inl rfl | exact Or.inr rfl)) sgs_nil)))) (ss_cons (ss_set (i := 10) hN rfl (by first | exact Or.inl rfl | exact Or.inr rfl) (se_lst true sa_nil)) (ss_cons (ss_for PassesOwn.never rfl (si_range1 (by rfl) B.range_ (sa_cons (sv 11) sa_nil)) (sg_name (i := 9) hN rfl (by first | exact Or.inl rfl | exact Or.inr rfl)) (ss_cons (ss_asg (C__law_term.se hr (sa_cons (sv 6) (sa_cons (sv 1) (sa_cons (sv 2) (sa_cons (sv 3) (sa_cons (se_op op_subA (sv 4) se_int) sa_nil)))))) (sg_tup rfl (sgs_cons (sg_name (i := 13) hN rfl (by first | exact Or.inl rfl | exact Or.inr rfl)) (sgs_cons (sg_name (i := 6) hN rfl (by first | exact Or.inl rfl | exact Or.inr rfl)) sgs_nil)))) (ss_one (ss_expr (se_bmL PySem.F.plainAttrs_list PySem.F.slot_list_append PySem.F.type_list_append mt_appendA (sv 10) (sa_cons (sv 13) sa_nil)))))) (ss_one (ss_ret (se_tup (sa_cons (se_tup (sa_cons se_str (sa_cons (sv 12) (sa_cons (se_callTy cr_tupA (by rfl) B.tuple_ (by decide +kernel) (sa_cons (sv 10) sa_nil)) sa_nil)))) (sa_cons (sv 6) sa_nil)))))))) ss_nil) (ss_cons (ss_set (i := 8) hN rfl (by first | exact Or.inl rfl | exact Or.inr rfl) (se_lst true sa_nil)) (ss_cons (ss_for PassesOwn.never rfl (si_range1 (by rfl) B.range_ (sa_cons (se_op op_addA se_int (se_op op_modA (sv 5) se_int)) sa_nil)) (sg_name (i := 9) hN rfl (by first | exact Or.inl rfl | exact Or.inr rfl)) (ss_cons (ss_set (i := 11) hN rfl (by first | exact Or.inl rfl | exact Or.inr rfl) (se_ix ix_A (se_lst false (sa_cons se_int (sa_cons se_int (sa_cons se_int (sa_cons se_int sa_nil))))) (se_op op_modA (se_op op_fdivA (sv 5) (se_ix ix_A (se_lst false (sa_cons se_int (sa_cons se_int (sa_cons se_int sa_nil)))) (sv 9))) se_int))) (ss_cons (ss_asg (C__law_term.se hr (sa_cons (sv 6) (sa_cons (se_op op_addA (sv 1) (sv 11)) (sa_cons (sv 2) (sa_cons (sv 3) (sa_cons (se_op op_subA (sv 4) se_int) sa_nil)))))) (sg_tup rfl (sgs_cons (sg_name (i := 13) hN rfl (by first | exact Or.inl rfl | exact Or.inr rfl)) (sgs_cons (sg_name (i := 6) hN rfl (by first | exact Or.inl rfl | exact Or.inr rfl)) sgs_nil)))) (ss_one (ss_expr (se_bmL PySem.F.plainAttrs_list PySem.F.slot_list_append PySem.F.type_list_append mt_appendA (sv 8) (sa_cons (se_tup (sa_cons (sv 11) (sa_cons (sv 13) sa_nil))) sa_nil))))))) (ss_one (ss_ret (se_tup (sa_cons (se_tup (sa_cons se_str (sa_cons (se_ix ix_A (sv 2) (se_op op_addA se_int (se_op op_modA (se_op op_modA (se_op op_fdivA (sv 5) se_int) se_int) se_int))) (sa_cons (se_callTy cr_tupA (by rfl) B.tuple_ (by decide +kernel) (sa_cons (sv 8) sa_nil)) sa_nil)))) (sa_cons (sv 6) sa_nil)))))))))))))

theorem d__law_drawn {cdv : Value} {A : Around} {outer : List Env} {s : Shared} {H : Hp} {E : XK} {f : Addr} {k : Nat} {sp__law_words sp__law_term : SpA} (hr : Room k (A.deeper (envOfC "_law_drawn" (defScope st__law_drawn) s.heap.objs.size f cdv))) (hk : 50 ≤ k) (B : Blt mg) (C__law_words : Callee P w K mg base "_law_words" ps__law_words k sp__law_words) (C__law_term : Callee P w K mg base "_law_term" ps__law_term k sp__law_term) :
    SSs (cxOf CX0 P w K mg base ns__law_drawn "_law_drawn" (defScope st__law_drawn) f cdv A outer s H E).nox (defBody st__law_drawn) (b__law_drawn sp__law_words sp__law_term) := by
  have hN : ns__law_drawn.Nodup := sc__law_drawn.nd
  exact ss_cons (ss_set (i := 3) hN rfl (by first | exact Or.inl rfl | exact Or.inr rfl) (C__law_words.se hr (sa_cons (sv 2) (sa_cons se_int sa_nil)))) (ss_cons (ss_setLc (i := 4) (own := [("_law_k", 5)]) rfl hN rfl rfl (sw_true rfl rfl rfl (by decide +kernel)) (si_range1 (by rfl) B.range_ (sa_cons se_int sa_nil)) (blkOk_by (N := ns__law_drawn) (sc := (defScope st__law_drawn)) (own := [("_law_k", 5)]) (by decide +kernel)) (fun _ _ _ _ _ => sg_name (i := 5) hN rfl (by first | exact Or.inl rfl | exact Or.inr rfl)) (fun _ _ _ _ _ => sts_nil) (fun _ _ _ _ _ => se_tup (sa_cons (se_ix ix_A (sv 3) (se_op op_addA se_int (sv 5))) (sa_cons (sv 5) sa_nil)))) (ss_one (ss_ret (se_ix ix_A (C__law_term.se hr (sa_cons (se_slice false (sv 0) so_none (so_some se_int)) (sa_cons (sv 1) (sa_cons (sv 3) (sa_cons (sv 4) (sa_cons se_int sa_nil)))))) se_int))))

theorem d__law_grown {cdv : Value} {A : Around} {outer : List Env} {s : Shared} {H : Hp} {E : XK} {f : Addr} {k : Nat} (hr : Room k (A.deeper (envOfC "_law_grown" (defScope st__law_grown) s.heap.objs.size f cdv))) (hk : 50 ≤ k) (B : Blt mg) :
    SSs (cxOf CX0 P w K mg base ns__law_grown "_law_grown" (defScope st__law_grown) f cdv A outer s H E).nox (defBody st__law_grown) (b__law_grown) := by
  have hN : ns__law_grown.Nodup := sc__law_grown.nd
  exact ss_cons (ss_set (i := 2) hN rfl (by first | exact Or.inl rfl | exact Or.inr rfl) (se_tup (sa_cons se_str (sa_cons se_str (sa_cons (se_tup sa_nil) sa_nil))))) (ss_cons (ss_if (st_cmp (op_eqA (hu_room hr hk)) (se_op op_modA (sv 1) se_int) se_int) (ss_cons (ss_set (i := 3) hN rfl (by first | exact Or.inl rfl | exact Or.inr rfl) (se_op op_addA (se_op op_mulA (se_lst false (sa_cons (se_tup (sa_cons se_int (sa_cons (sv 2) sa_nil))) sa_nil)) (se_op op_modA (se_op op_fdivA (sv 1) se_int) se_int)) (se_lst false (sa_cons (se_tup (sa_cons (se_op op_modA (se_op op_fdivA (sv 1) se_int) se_int) (sa_cons (sv 0) sa_nil))) sa_nil)))) (ss_one (ss_ret (se_tup (sa_cons se_str (sa_cons se_str (sa_cons (se_callTy cr_tupA (by rfl) B.tuple_ (by decide +kernel) (sa_cons (sv 3) sa_nil)) sa_nil))))))) ss_nil) (ss_cons (ss_if (st_cmp (op_eqA (hu_room hr hk)) (se_op op_modA (sv 1) se_int) se_int) (ss_one (ss_for PassesOwn.never rfl (si_range1 (by rfl) B.range_ (sa_cons (se_op op_modA (se_op op_fdivA (sv 1) se_int) se_int) sa_nil)) (sg_name (i := 4) hN rfl (by first | exact Or.inl rfl | exact Or.inr rfl)) (ss_one (ss_set (i := 0) hN rfl (by first | exact Or.inl rfl | exact Or.inr rfl) (se_tup (sa_cons se_str (sa_cons se_str (sa_cons (se_tup (sa_cons (se_tup (sa_cons se_int (sa_cons (sv 0) sa_nil))) sa_nil)) sa_nil)))))))) ss_nil) (ss_one (ss_ret (sv 0)))))

theorem d__law_inner {cdv : Value} {A : Around} {outer : List Env} {s : Shared} {H : Hp} {E : XK} {f : Addr} {k : Nat} (hr : Room k (A.deeper (envOfC "_law_inner" (defScope st__law_inner) s.heap.objs.size f cdv))) (hk : 50 ≤ k) (B : Blt mg) :
    SSs (cxOf CX0 P w K mg base ns__law_inner "_law_inner" (defScope st__law_inner) f cdv A outer s H E).nox (defBody st__law_inner) (b__law_inner) := by
  have hN : ns__law_inner.Nodup := sc__law_inner.nd
  exact ss_cons (ss_if (st_cmp (op_eqA (hu_room hr hk)) (se_ix ix_A (sv 0) se_int) se_str) (ss_one (ss_ret (se_lst false sa_nil))) ss_nil) (ss_cons (ss_if (st_cmp (op_eqA (hu_room hr hk)) (se_ix ix_A (sv 0) se_int) se_str) (ss_one (ss_ret (se_callTy (cr_listA false) (by rfl) B.list_ (by decide +kernel) (sa_cons (se_ix ix_A (sv 0) se_int) sa_nil)))) ss_nil) (ss_one (ss_ret (se_comp (own := [("_law_one", 1)]) rfl hN (si_iter (se_ix ix_A (sv 0) se_int)) (blkOk_by (N := ns__law_inner) (sc := (defScope st__law_inner)) (own := [("_law_one", 1)]) (by decide +kernel)) (fun _ _ _ _ _ => sg_name (i := 1) hN rfl (by first | exact Or.inl rfl | exact Or.inr rfl)) (fun _ _ _ _ _ => sts_nil) (fun _ _ _ _ _ => se_tup (sa_cons se_int (sa_cons (sv 1) sa_nil)))))))

theorem d__law_rows {cdv : Value} {A : Around} {outer : List Env} {s : Shared} {H : Hp} {E : XK} {f : Addr} {k : Nat} {sp__law_inner : SpA} (hr : Room k (A.deeper (envOfC "_law_rows" (defScope st__law_rows) s.heap.objs.size f cdv))) (hk : 50 ≤ k) (B : Blt mg) (C__law_inner : Callee P w K mg base "_law_inner" ps__law_inner k sp__law_inner) :
    SSs (cxOf CX0 P w K mg base ns__law_rows "_law_rows" (defScope st__law_rows) f cdv A outer s H E).nox (defBody st__law_rows) (b__law_rows sp__law_inner) := by
  have hN : ns__law_rows.Nodup := sc__law_rows.nd
  exact ss_cons (ss_set (i := 1) hN rfl (by first | exact Or.inl rfl | exact Or.inr rfl) se_dnew) (ss_cons (ss_set (i := 2) hN rfl (by first | exact Or.inl rfl | exact Or.inr rfl) (se_lst true (sa_cons (se_tup (sa_cons (sv 0) (sa_cons se_int (sa_cons (se_tup sa_nil) sa_nil)))) sa_nil))) (ss_cons (ss_while PassesOwn.never (st_cmp (op_neA (hu_room hr hk)) (sv 2) (se_lst false sa_nil)) (ss_cons (ss_asg (se_bmL0 PySem.F.plainAttrs_list PySem.F.slot_list_pop PySem.F.type_list_pop mt_popA (sv 2)) (sg_tup rfl (sgs_cons (sg_name (i := 4) hN rfl (by first | exact Or.inl rfl | exact Or.inr rfl)) (sgs_cons (sg_name (i := 5) hN rfl (by first | exact Or.inl rfl | exact Or.inr rfl)) (sgs_cons (sg_name (i := 6) hN rfl (by first | exact Or.inl rfl | exact Or.inr rfl)) sgs_nil))))) (ss_cons (ss_set (i := 3) hN rfl (by first | exact Or.inl rfl | exact Or.inr rfl) (se_callTy cr_tupA (by rfl) B.tuple_ (by decide +kernel) (sa_cons (se_comp (own := [("_law_many", 9), ("_law_below", 10)]) rfl hN (si_iter (C__law_inner.se hr (sa_cons (sv 4) sa_nil))) (blkOk_by (N := ns__law_rows) (sc := (defScope st__law_rows)) (own := [("_law_many", 9), ("_law_below", 10)]) (by decide +kernel)) (fun _ _ _ _ _ => sg_tup rfl (sgs_cons (sg_name (i := 9) hN rfl (by first | exact Or.inl rfl | exact Or.inr rfl)) (sgs_cons (sg_name (i := 10) hN rfl (by first | exact Or.inl rfl | exact Or.inr rfl)) sgs_nil))) (fun _ _ _ _ _ => sts_nil) (fun _ _ _ _ _ => sv 9)) sa_nil))) (ss_cons (ss_dput (hu_room hr hk) (se_tup (sa_cons (se_ix ix_A (sv 4) se_int) (sa_cons (se_ix ix_A (sv 4) se_int) (sa_cons (sv 3) (sa_cons (sv 5) sa_nil))))) (sv 1) (sv 6)) (ss_one (ss_for PassesOwn.never rfl (si_enum (by rfl) B.enumerate_ (sa_cons (C__law_inner.se hr (sa_cons (sv 4) sa_nil)) sa_nil)) (sg_tup rfl (sgs_cons (sg_name (i := 7) hN rfl (by first | exact Or.inl rfl | exact Or.inr rfl)) (sgs_cons (sg_name (i := 8) hN rfl (by first | exact Or.inl rfl | exact Or.inr rfl)) sgs_nil))) (ss_one (ss_expr (se_bmL PySem.F.plainAttrs_list PySem.F.slot_list_append PySem.F.type_list_append mt_appendA (sv 2) (sa_cons (se_tup (sa_cons (se_ix ix_A (sv 8) se_int) (sa_cons (se_op op_addA (sv 5) (se_ix ix_A (sv 8) se_int)) (sa_cons (se_op op_addA (sv 6) (se_tup (sa_cons (sv 7) sa_nil))) sa_nil)))) sa_nil)))))))))) (ss_one (ss_ret (sv 1)))))

theorem d__law_due {cdv : Value} {A : Around} {outer : List Env} {s : Shared} {H : Hp} {E : XK} {f : Addr} {k : Nat} {sp__law_rows : SpA} (hr : Room k (A.deeper (envOfC "_law_due" (defScope st__law_due) s.heap.objs.size f cdv))) (hk : 50 ≤ k) (B : Blt mg) (C__law_rows : Callee P w K mg base "_law_rows" ps__law_rows k sp__law_rows) :
    SSs (cxOf CX0 P w K mg base ns__law_due "_law_due" (defScope st__law_due) f cdv A outer s H E).nox (defBody st__law_due) (b__law_due sp__law_rows) := by
  have hN : ns__law_due.Nodup := sc__law_due.nd
  exact ss_cons (ss_set (i := 3) hN rfl (by first | exact Or.inl rfl | exact Or.inr rfl) se_dnew) (ss_cons (ss_for PassesOwn.never rfl (si_itemsT (sv 0)) (sg_tup rfl (sgs_cons (sg_name (i := 4) hN rfl (by first | exact Or.inl rfl | exact Or.inr rfl)) (sgs_cons (sg_name (i := 5) hN rfl (by first | exact Or.inl rfl | exact Or.inr rfl)) sgs_nil))) (ss_one (ss_if (st_cmp (op_neA (hu_room hr hk)) (se_slice false (sv 4) so_none (so_some (se_callB cr_lenA (by rfl) B.len_ (by decide +kernel) (sa_cons (sv 1) sa_nil)))) (sv 1)) (ss_one (ss_dput (hu_room hr hk) (sv 5) (sv 3) (sv 4))) ss_nil))) (ss_cons (ss_for PassesOwn.never rfl (si_itemsT (C__law_rows.se hr (sa_cons (sv 2) sa_nil))) (sg_tup rfl (sgs_cons (sg_name (i := 4) hN rfl (by first | exact Or.inl rfl | exact Or.inr rfl)) (sgs_cons (sg_name (i := 5) hN rfl (by first | exact Or.inl rfl | exact Or.inr rfl)) sgs_nil))) (ss_one (ss_dput (hu_room hr hk) (se_tup (sa_cons (se_ix ix_A (sv 5) se_int) (sa_cons (se_ix ix_A (sv 5) se_int) (sa_cons (se_ix ix_A (sv 5) se_int) (sa_cons (se_op op_addA (se_ix ix_A (sv 5) se_int) (se_ix ix_A (se_dget (hu_room hr hk) (sv 0) (sv 1)) se_int)) sa_nil))))) (sv 3) (se_op op_addA (sv 1) (sv 4))))) (ss_one (ss_ret (sv 3)))))

theorem d__law_there {cdv : Value} {A : Around} {outer : List Env} {s : Shared} {H : Hp} {E : XK} {f : Addr} {k : Nat} {sp__law_inner : SpA} (hr : Room k (A.deeper (envOfC "_law_there" (defScope st__law_there) s.heap.objs.size f cdv))) (hk : 50 ≤ k) (B : Blt mg) (C__law_inner : Callee P w K mg base "_law_inner" ps__law_inner k sp__law_inner) :
    SSs (cxOf CX0 P w K mg base ns__law_there "_law_there" (defScope st__law_there) f cdv A outer s H E).nox (defBody st__law_there) (b__law_there sp__law_inner) := by
  have hN : ns__law_there.Nodup := sc__law_there.nd
  exact ss_cons (ss_for PassesOwn.never rfl (si_iter (sv 1)) (sg_name (i := 2) hN rfl (by first | exact Or.inl rfl | exact Or.inr rfl)) (ss_one (ss_set (i := 0) hN rfl (by first | exact Or.inl rfl | exact Or.inr rfl) (se_ix ix_A (se_ix ix_A (C__law_inner.se hr (sa_cons (sv 0) sa_nil)) (sv 2)) se_int)))) (ss_one (ss_ret (sv 0)))

theorem d_law {cdv : Value} {A : Around} {outer : List Env} {s : Shared} {H : Hp} {E : XK} {f : Addr} {k : Nat} {sp__law_cell_at sp__law_mix sp__law_drawn sp__law_grown sp__law_rows sp_changed sp__law_due sp__law_there : SpA} (hr : Room k (A.deeper (envOfC "law" (defScope st_law) s.heap.objs.size f cdv))) (hk : 50 ≤ k) (B : Blt mg) (C__law_cell_at : Callee P w K mg base "_law_cell_at" ps__law_cell_at k sp__law_cell_at) (C__law_mix : Callee P w K mg base "_law_mix" ps__law_mix k sp__law_mix) (C__law_drawn : Callee P w K mg base "_law_drawn" ps__law_drawn k sp__law_drawn) (C__law_grown : Callee P w K mg base "_law_grown" ps__law_grown k sp__law_grown) (C__law_rows : Callee P w K mg base "_law_rows" ps__law_rows k sp__law_rows) (C_changed : Callee P w K mg base "changed" ps_changed k sp_changed) (C__law_due : Callee P w K mg base "_law_due" ps__law_due k sp__law_due) (C__law_there : Callee P w K mg base "_law_there" ps__law_there k sp__law_there) :
    SSs (cxOf CX0 P w K mg base ns_law "law" (defScope st_law) f cdv A outer s H E).nox (defBody st_law) (b_law sp__law_cell_at sp__law_mix sp__law_drawn sp__law_grown sp__law_rows sp_changed sp__law_due sp__law_there) := by
  have hN : ns_law.Nodup := sc_law.nd
  exact ss_cons (ss_for PassesOwn.never rfl (si_range3 (by rfl) B.range_ (sa_cons se_int (sa_cons (se_callB (cr_maxA rfl) (by rfl) B.max_ (by decide +kernel) (sa_cons se_int (sa_cons (se_callB (cr_minA rfl) (by rfl) B.min_ (by decide +kernel) (sa_cons (se_callB cr_lenA (by rfl) B.len_ (by decide +kernel) (sa_cons (sv 0) sa_nil)) (sa_cons se_int sa_nil))) sa_nil))) (sa_cons se_int sa_nil)))) (sg_name (i := 1) hN rfl (by first | exact Or.inl rfl | exact Or.inr rfl)) (ss_cons (ss_set (i := 2) hN rfl (by first | exact Or.inl rfl | exact Or.inr rfl) (C__law_cell_at.se hr (sa_cons (sv 0) (sa_cons (sv 1) sa_nil)))) (ss_cons (ss_set (i := 3) hN rfl (by first | exact Or.inl rfl | exact Or.inr rfl) (C__law_grown.se hr (sa_cons (C__law_drawn.se hr (sa_cons (se_slice false (sv 0) (so_some (sv 1)) so_none) (sa_cons (se_op op_modA (C__law_mix.se hr (sa_cons (sv 2) (sa_cons se_int sa_nil))) se_int) (sa_cons (sv 2) sa_nil)))) (sa_cons (C__law_mix.se hr (sa_cons (sv 2) (sa_cons se_int sa_nil))) sa_nil)))) (ss_cons (ss_set (i := 4) hN rfl (by first | exact Or.inl rfl | exact Or.inr rfl) (C__law_drawn.se hr (sa_cons (se_slice false (sv 0) (so_some (se_op op_addA (sv 1) se_int)) (so_some (se_op op_addA (sv 1) se_int))) (sa_cons se_int (sa_cons (sv 2) sa_nil))))) (ss_cons (ss_set (i := 5) hN rfl (by first | exact Or.inl rfl | exact Or.inr rfl) (C__law_rows.se hr (sa_cons (sv 3) sa_nil))) (ss_cons (ss_set (i := 6) hN rfl (by first | exact Or.inl rfl | exact Or.inr rfl) (se_callB (cr_sortTA rfl (hu_room hr hk)) (by rfl) B.sorted_ (by decide +kernel) (sa_cons (sv 5) sa_nil))) (ss_cons (ss_set (i := 7) hN rfl (by first | exact Or.inl rfl | exact Or.inr rfl) (se_ix ix_A (sv 6) (se_op op_modA (C__law_mix.se hr (sa_cons (sv 2) (sa_cons se_int sa_nil))) (se_callB cr_lenA (by rfl) B.len_ (by decide +kernel) (sa_cons (sv 6) sa_nil))))) (ss_cons (ss_set (i := 8) hN rfl (by first | exact Or.inl rfl | exact Or.inr rfl) (C_changed.se hr (sa_cons (sv 3) (sa_cons (sv 7) (sa_cons (sv 4) sa_nil))))) (ss_cons (ss_if (SW.st (sw_or (st_cmp (op_neT (hu_room hr hk)) (C__law_rows.se hr (sa_cons (sv 8) sa_nil)) (C__law_due.se hr (sa_cons (sv 5) (sa_cons (sv 7) (sa_cons (sv 4) sa_nil))))) (sw_or1 (st_cmp (op_neT (hu_room hr hk)) (C__law_rows.se hr (sa_cons (sv 3) sa_nil)) (sv 5))))) (ss_one (ss_ret se_bl)) ss_nil) (ss_one (ss_if (st_cmp (op_neA (hu_room hr hk)) (C_changed.se hr (sa_cons (sv 8) (sa_cons (sv 7) (sa_cons (C__law_there.se hr (sa_cons (sv 3) (sa_cons (sv 7) sa_nil))) sa_nil)))) (sv 3)) (ss_one (ss_ret se_bl)) ss_nil))))))))))) (ss_one (ss_ret se_bl))

end
end HA.K7

namespace HA.K7
open PySem PySem.Spec PyProof.Rows L2
theorem ends {l : PySem.W.OpenLaw} {w : World} {K : PySem.W.Frag} {mg : Str → Option Value} {fa : Addr} (hfa : mg "law" = some (.ref fa)) (B : Blt mg)
    (D_changed : Dfn K mg "changed" ps_changed st_changed)
    (D__law_cell_at : Dfn K mg "_law_cell_at" ps__law_cell_at st__law_cell_at)
    (D__law_mix : Dfn K mg "_law_mix" ps__law_mix st__law_mix)
    (D__law_words : Dfn K mg "_law_words" ps__law_words st__law_words)
    (D__law_free : Dfn K mg "_law_free" ps__law_free st__law_free)
    (D__law_leaf : Dfn K mg "_law_leaf" ps__law_leaf st__law_leaf)
    (D__law_term : Dfn K mg "_law_term" ps__law_term st__law_term)
    (D__law_drawn : Dfn K mg "_law_drawn" ps__law_drawn st__law_drawn)
    (D__law_grown : Dfn K mg "_law_grown" ps__law_grown st__law_grown)
    (D__law_inner : Dfn K mg "_law_inner" ps__law_inner st__law_inner)
    (D__law_rows : Dfn K mg "_law_rows" ps__law_rows st__law_rows)
    (D__law_due : Dfn K mg "_law_due" ps__law_due st__law_due)
    (D__law_there : Dfn K mg "_law_there" ps__law_there st__law_there)
    (D_law : Dfn K mg "law" ps_law st_law)
    : ∃ fd : FuncData, (∀ (s : Shared) (v : Value), BindsTo s fd ⟨[v], []⟩ [("_law_script", v)]) ∧ ∀ base : Heap, K.In base → base.Ns mainGlobals mg → FnOk l.prog w K mg base CX0 (111 + 1) fa fd ["_law_script"] (lSp K (spLawA 63)) := by
  refine law_end (tb := b_law sp_cell sp_mix sp_drawn sp_grown sp_rows (sp_ch 60) sp_due sp_there) D_law hfa sc_law (fun _ _ _ _ _ _ _ => rfl) (fun base _ _ f cdv A outer s H E hr => ?_) (fun xs S Q h => by obtain ⟨ns, rfl, _⟩ := h; rfl) (fun xs S Q h => wp_law xs S Q h)
  have C_changed : ∀ n : Nat, Callee l.prog w K mg base "changed" ps_changed (51 + n) (sp_ch n) := fun n => by
    induction n with
    | zero => exact D_changed.none fun xs S Q h => by obtain ⟨t, _, _, _, _, hd, _⟩ := h; have := depT_pos t; omega
    | succ n ih => exact D_changed.callee (k := 51 + n) sc_changed (fun f cdv A outer s H E hr => d_changed hr (by omega) B ih) (fun xs S Q h => by obtain ⟨t, _, _, _, rfl, _⟩ := h; rfl) (fun xs S Q h => wp_changed n xs S Q h)
  have C__law_cell_at := D__law_cell_at.callee (P := l.prog) (w := w) (base := base) (k := 50) (sp := sp_cell) (tb := b__law_cell_at) sc__law_cell_at (fun f cdv A outer s H E hr => d__law_cell_at hr (by omega) B ) (fun xs S Q h => by obtain ⟨t, p, rfl, _⟩ := h; rfl) (fun xs S Q h => wp_cell xs S Q h)
  have C__law_mix := D__law_mix.callee (P := l.prog) (w := w) (base := base) (k := 50) (sp := sp_mix) (tb := b__law_mix) sc__law_mix (fun f cdv A outer s H E hr => d__law_mix hr (by omega) B ) (fun xs S Q h => by obtain ⟨t, p, rfl, _⟩ := h; rfl) (fun xs S Q h => wp_mix xs S Q h)
  have C__law_words := D__law_words.callee (P := l.prog) (w := w) (base := base) (k := 51) (sp := sp_words) (tb := b__law_words sp_mix) sc__law_words (fun f cdv A outer s H E hr => d__law_words hr (by omega) B C__law_mix) (fun xs S Q h => by obtain ⟨t, p, rfl, _⟩ := h; rfl) (fun xs S Q h => wp_words xs S Q h)
  have C__law_free := D__law_free.callee (P := l.prog) (w := w) (base := base) (k := 51) (sp := sp_free) (tb := b__law_free sp_mix) sc__law_free (fun f cdv A outer s H E hr => d__law_free hr (by omega) B C__law_mix) (fun xs S Q h => by obtain ⟨t, p, rfl, _⟩ := h; rfl) (fun xs S Q h => wp_free xs S Q h)
  have C__law_leaf := D__law_leaf.callee (P := l.prog) (w := w) (base := base) (k := 50) (sp := sp_leaf) (tb := b__law_leaf) sc__law_leaf (fun f cdv A outer s H E hr => d__law_leaf hr (by omega) B ) (fun xs S Q h => by obtain ⟨t, p, q, rfl, _⟩ := h; rfl) (fun xs S Q h => wp_leaf xs S Q h)
  have C__law_term : ∀ n : Nat, Callee l.prog w K mg base "_law_term" ps__law_term (53 + n) (sp_tm n) := fun n => by
    induction n with
    | zero => exact D__law_term.none fun xs S Q h => by obtain ⟨_, _, _, _, d, _, hd, _⟩ := h; omega
    | succ n ih => exact D__law_term.callee (k := 53 + n) sc__law_term (fun f cdv A outer s H E hr => d__law_term hr (by omega) B (C__law_free.mono (by omega)) (C__law_leaf.mono (by omega)) ih) (fun xs S Q h => by obtain ⟨_, _, _, _, _, rfl, _⟩ := h; rfl) (fun xs S Q h => wp_term n xs S Q h)
  have C__law_drawn := D__law_drawn.callee (P := l.prog) (w := w) (base := base) (k := 58) (sp := sp_drawn) (tb := b__law_drawn sp_words (sp_tm 5)) sc__law_drawn (fun f cdv A outer s H E hr => d__law_drawn hr (by omega) B (C__law_words.mono (by omega)) (C__law_term 5)) (fun xs S Q h => by obtain ⟨t, p, q, rfl, _⟩ := h; rfl) (fun xs S Q h => wp_drawn xs S Q h)
  have C__law_grown := D__law_grown.callee (P := l.prog) (w := w) (base := base) (k := 50) (sp := sp_grown) (tb := b__law_grown) sc__law_grown (fun f cdv A outer s H E hr => d__law_grown hr (by omega) B ) (fun xs S Q h => by obtain ⟨t, p, rfl, _⟩ := h; rfl) (fun xs S Q h => wp_grown xs S Q h)
  have C__law_inner := D__law_inner.callee (P := l.prog) (w := w) (base := base) (k := 50) (sp := sp_inner) (tb := b__law_inner) sc__law_inner (fun f cdv A outer s H E hr => d__law_inner hr (by omega) B ) (fun xs S Q h => by obtain ⟨t, rfl, _⟩ := h; rfl) (fun xs S Q h => wp_linner xs S Q h)
  have C__law_rows := D__law_rows.callee (P := l.prog) (w := w) (base := base) (k := 51) (sp := sp_rows) (tb := b__law_rows sp_inner) sc__law_rows (fun f cdv A outer s H E hr => d__law_rows hr (by omega) B C__law_inner) (fun xs S Q h => by obtain ⟨t, rfl, _⟩ := h; rfl) (fun xs S Q h => wp_rows xs S Q h)
  have C__law_due := D__law_due.callee (P := l.prog) (w := w) (base := base) (k := 52) (sp := sp_due) (tb := b__law_due sp_rows) sc__law_due (fun f cdv A outer s H E hr => d__law_due hr (by omega) B C__law_rows) (fun xs S Q h => by obtain ⟨t, o, p, z, l, rfl, _⟩ := h; rfl) (fun xs S Q h => wp_due xs S Q h)
  have C__law_there := D__law_there.callee (P := l.prog) (w := w) (base := base) (k := 51) (sp := sp_there) (tb := b__law_there sp_inner) sc__law_there (fun f cdv A outer s H E hr => d__law_there hr (by omega) B C__law_inner) (fun xs S Q h => by obtain ⟨t, p, z, rfl, _⟩ := h; rfl) (fun xs S Q h => wp_there xs S Q h)
  exact d_law hr (by decide) B (C__law_cell_at.mono (by omega)) (C__law_mix.mono (by omega)) (C__law_drawn.mono (by omega)) (C__law_grown.mono (by omega)) (C__law_rows.mono (by omega)) ((C_changed 60).mono (by omega)) (C__law_due.mono (by omega)) (C__law_there.mono (by omega))
end HA.K7

open PySem PySem.W PyProof.Rows
set_option maxRecDepth 100000 in
set_option maxHeartbeats 0 in
theorem PySem.Challenge.cw_holeform_k07_changed_holds : PySem.Challenge.rw_holeform_k07_changed.Holds := by
  w_on; o_law; k_head; (case hw => w_witness2)
  k_fill
  refine HA.walkA (l := PySem.Challenge.rw_holeform_k07_changed) (n := 63) (k := 111 + 1) (x := "_law_script") rfl (by decide) rfl ⟨rfl, by decide, by decide⟩ (fun w h Y => PySem.W.kIn_of Y) ?F
  case F =>
    intro w mg fa h KX G hmg
    refine' HA.K7.ends hmg ?B ?D_changed ?D__law_cell_at ?D__law_mix ?D__law_words ?D__law_free ?D__law_leaf ?D__law_term ?D__law_drawn ?D__law_grown ?D__law_inner ?D__law_rows ?D__law_due ?D__law_there ?D_law
    (case B => refine' ⟨?_, ?_, ?_, ?_, ?_, ?_, ?_, ?_, ?_, ?_, ?_, ?_, ?_, ?_, ?_, ?_, ?_, ?_, ?_, ?_⟩ <;> (refine' PySem.W.mg_none_of KX G ?z; (case z => k_is)))
    (case D_changed =>
      refine' HA.dfn_mk KX G (fun _ _ _ _ _ _ us hl => match us, hl with | [_, _, _], _ => rfl) ?a ?l ?c ?k
      (case a => k_is); (case l => k_is); (case c => k_is); (case k => k_is))
    (case D__law_cell_at =>
      refine' HA.dfn_mk KX G (fun _ _ _ _ _ _ us hl => match us, hl with | [_, _], _ => rfl) ?a ?l ?c ?k
      (case a => k_is); (case l => k_is); (case c => k_is); (case k => k_is))
    (case D__law_mix =>
      refine' HA.dfn_mk KX G (fun _ _ _ _ _ _ us hl => match us, hl with | [_, _], _ => rfl) ?a ?l ?c ?k
      (case a => k_is); (case l => k_is); (case c => k_is); (case k => k_is))
    (case D__law_words =>
      refine' HA.dfn_mk KX G (fun _ _ _ _ _ _ us hl => match us, hl with | [_, _], _ => rfl) ?a ?l ?c ?k
      (case a => k_is); (case l => k_is); (case c => k_is); (case k => k_is))
    (case D__law_free =>
      refine' HA.dfn_mk KX G (fun _ _ _ _ _ _ us hl => match us, hl with | [_, _], _ => rfl) ?a ?l ?c ?k
      (case a => k_is); (case l => k_is); (case c => k_is); (case k => k_is))
    (case D__law_leaf =>
      refine' HA.dfn_mk KX G (fun _ _ _ _ _ _ us hl => match us, hl with | [_, _, _], _ => rfl) ?a ?l ?c ?k
      (case a => k_is); (case l => k_is); (case c => k_is); (case k => k_is))
    (case D__law_term =>
      refine' HA.dfn_mk KX G (fun _ _ _ _ _ _ us hl => match us, hl with | [_, _, _, _, _], _ => rfl) ?a ?l ?c ?k
      (case a => k_is); (case l => k_is); (case c => k_is); (case k => k_is))
    (case D__law_drawn =>
      refine' HA.dfn_mk KX G (fun _ _ _ _ _ _ us hl => match us, hl with | [_, _, _], _ => rfl) ?a ?l ?c ?k
      (case a => k_is); (case l => k_is); (case c => k_is); (case k => k_is))
    (case D__law_grown =>
      refine' HA.dfn_mk KX G (fun _ _ _ _ _ _ us hl => match us, hl with | [_, _], _ => rfl) ?a ?l ?c ?k
      (case a => k_is); (case l => k_is); (case c => k_is); (case k => k_is))
    (case D__law_inner =>
      refine' HA.dfn_mk KX G (fun _ _ _ _ _ _ us hl => match us, hl with | [_], _ => rfl) ?a ?l ?c ?k
      (case a => k_is); (case l => k_is); (case c => k_is); (case k => k_is))
    (case D__law_rows =>
      refine' HA.dfn_mk KX G (fun _ _ _ _ _ _ us hl => match us, hl with | [_], _ => rfl) ?a ?l ?c ?k
      (case a => k_is); (case l => k_is); (case c => k_is); (case k => k_is))
    (case D__law_due =>
      refine' HA.dfn_mk KX G (fun _ _ _ _ _ _ us hl => match us, hl with | [_, _, _], _ => rfl) ?a ?l ?c ?k
      (case a => k_is); (case l => k_is); (case c => k_is); (case k => k_is))
    (case D__law_there =>
      refine' HA.dfn_mk KX G (fun _ _ _ _ _ _ us hl => match us, hl with | [_, _], _ => rfl) ?a ?l ?c ?k
      (case a => k_is); (case l => k_is); (case c => k_is); (case k => k_is))
    (case D_law =>
      refine' HA.dfn_mk KX G (fun _ _ _ _ _ _ us hl => match us, hl with | [_], _ => rfl) ?a ?l ?c ?k
      (case a => k_is); (case l => k_is); (case c => k_is); (case k => k_is))

