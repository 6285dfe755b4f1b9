import PyProof.Rows.All
import Wide.All
import OpenK.AllK
import Wide.FinOn
import HandS.ForMost
import HandS.ForExc
import HandS.Lambda
import HandS.Deep
import HandS.TupAny
import HandS.Zip
import HandS.Style
import HandS.DictComp
import HandS.TryMany
import HandS.Conv
import HandS.Wide
import HandS.TupMul
import HandS.Strs
import HandS.IsInst
import KE.DataFind
import PyProof.Rows.SortShellAny
import KE.GoesEnum
import HandS.Small
import HandS.SortInts
import HandS.NoneIn
import PySem.Challenge.RW_letpass_k06_whole_counts_of_great_lines
set_option Elab.async false
set_option linter.all false
set_option maxRecDepth 100000
set_option maxHeartbeats 2000000
/-! # ZT: tuples that are known to the object (so that their methods can be called): the making of them -/
namespace Z
open PySem PySem.Spec PyProof.Rows L2

/-- the tuple at a is a plain one, of these values -/
def SqD (H : Hp) (a : Addr) (vs : List V) : Prop := ∃ o, H a = some (.frz o (.tup vs)) ∧ o.dict = none
theorem SqD.sqt {K : PySem.W.Frag} {H : Hp} {a : Addr} {vs : List V} (h : SqD H a vs) : SqT K H a vs := let ⟨o, h, _⟩ := h; .inl (.inr ⟨o, h⟩)
/-- what is to be granted for a new tuple -/
abbrev NewD (H : Hp) (vs : List V) (Q : VK) : Prop := ∀ p o, H p = none → o.dict = none → Q (.ref p) (upd H p (.frz o (.tup vs)))
section
variable {X : Cx} {pins : List (Addr × Obj)} {σ : L2.St} {H : Hp} {s : Shared}
theorem laidD {its : List Value} {vs : List V} {h' : Heap} {Q : VK} (I : Inv X pins σ H { s with heap := h' }) (r : Vals vs its) (hz : vs.length ≤ sizeLine) (q : NewD H vs Q) :
    EP X pins σ Q (.ref h'.objs.size) { s with heap := h'.push { cls := .type "tuple", data := .seq its.toArray } } := by
  have hn : H h'.objs.size = none := I.hok.fresh (Nat.le_refl _)
  refine ⟨.ref h'.objs.size, _, I.laid (t' := s.toks) (o := .frz { cls := .type "tuple", data := .seq its.toArray } (.tup vs)) (fun b o e => Heap.get?_push_of_some _ e) (Nat.le_refl _) ?_, rfl, q _ _ hn rfl⟩
  exact ⟨Heap.get?_push_size _ rfl, hz, its, r, IsTup.new _ _⟩
def rCatD (K : PySem.W.Frag) : R2 := fun x y H Q => ∃ a b xs ys, x = .ref a ∧ y = .ref b ∧ SqT K H a xs ∧ SqT K H b ys ∧ xs.length + ys.length ≤ sizeLine ∧
  (xs = [] → Q (.ref b) H) ∧ (xs ≠ [] → ys = [] → Q (.ref a) H) ∧ (xs ≠ [] → ys ≠ [] → NewD H (xs ++ ys) Q)
theorem op_catD : OpR X (binaryOp .Add) (rCatD X.K) := by
  intro pins s σ H x y v u Q I rx ry h
  obtain ⟨a, b, xs, ys, rfl, rfl, ha, hb, hz, q0, q1, q2⟩ := h
  cases rx
  cases ry
  obtain ⟨its, r1, p1, _⟩ := I.tuple ha
  obtain ⟨its2, r2, p2, _⟩ := I.tuple hb
  by_cases hx : xs = []
  · subst hx
    cases r1
    exact cat_tup0 p1 p2 ⟨.ref b, H, I, rfl, q0 rfl⟩
  · refine HT.cat_tup p1 p2 (fun z => hx (r1.nil_iff.mp z)) (fun z => ⟨.ref a, H, I, rfl, q1 hx (r2.nil_iff.mp z)⟩) (fun z => ?_) (by rw [← r1.length, ← r2.length]; exact hz)
    exact laidD (s := s) (h' := s.heap) I (r1.append r2) (by rw [List.length_append]; exact hz) (q2 hx fun w => z (r2.nil_iff.mpr w))
theorem call_tuple_ofD : CallR X (.type "tuple") (fun xs H Q => ∃ p ys, xs = [.ref p] ∧ ((SqL X.K H p ys ∧ NewD H ys Q) ∨ (SqT X.K H p ys ∧ Q (.ref p) H))) := by
  intro pins s σ H xs us Q I r h
  obtain ⟨p, ys, rfl, h⟩ := h
  obtain ⟨u, rfl, rx⟩ := vals1 r
  cases rx
  rcases h with ⟨hq, q⟩ | ⟨hq, q⟩
  · obtain ⟨its, r', pl, hz⟩ := I.list hq
    have hlen := r'.length
    refine call_tuple_list pl.isList (fun h' kp => ?_) (by simp only [List.size_toArray] <;> omega)
    exact laidD (s := s) (I.kept (t' := s.toks) kp) r' hz q
  · obtain ⟨its, r', pl, hz⟩ := I.tuple hq
    exact call_tuple_same pl ⟨.ref p, H, I, rfl, q⟩
def tTupD (t : TA) : TE := fun σ H Q => t σ H fun xs H1 => xs.length ≤ sizeLine ∧ NewD H1 xs Q
theorem pe_tupD {es : List Expr} {t : TA} {x1} {pos : Pos} (h : PA X es t) : PE X (.Tuple es x1 pos) (tTupD t) := by
  refine ⟨fun pins s σ H Q I hq => ?_⟩
  refine wpAny_Tuple_spliced (thn (h.run pos pins s σ H _ I hq) fun us s1 ⟨xs, H1, I1, r, z, q⟩ => ⟨by rw [← r.length]; exact z, ?_⟩)
  exact laidD (s := s1) (h' := s1.heap) I1 r z q
/-- t[lo:hi] -/
def rSlD (K : PySem.W.Frag) : V → Option Int → Option Int → Hp → VK → Prop := fun x lo hi H Q => ∃ a xs, x = .ref a ∧ SqT K H a xs ∧
  (HT.sIx xs.length 0 lo = 0 ∧ HT.sIx xs.length xs.length hi = xs.length → Q (.ref a) H) ∧ (¬ (HT.sIx xs.length 0 lo = 0 ∧ HT.sIx xs.length xs.length hi = xs.length) → NewD H (cutV xs lo hi) Q)
theorem sl_tupD : SlR X (rSlD X.K) := by
  intro pins s σ H x v vl vu lo hi sl Q I rx hs pl pu h
  obtain ⟨a, xs, rfl, hx, q1, q2⟩ := h
  cases rx
  obtain ⟨its, r, ht, hz⟩ := I.tuple hx
  have hlen : its.toArray.size = xs.length := by rw [List.size_toArray]; exact r.length.symm
  refine ⟨"tuple", _, PyProof.Rows.slot_tuple_getitem.lookup, ht.typeIs, ?_⟩
  by_cases hw : HT.sIx xs.length 0 lo = 0 ∧ HT.sIx xs.length xs.length hi = xs.length
  · exact getItem_tuple_whole ht hs pl pu (by rw [hlen]; exact hw) ⟨.ref a, H, I, rfl, q1 hw⟩
  · refine HT.getItem_tuple_cut ht hs pl pu (by rw [hlen]; exact hw) ?_ (by rw [hlen]; exact hz)
    rw [hlen]
    exact laidD (s := s) (h' := s.heap) I ((r.drop (HT.sIx xs.length 0 lo)).take (HT.sIx xs.length xs.length hi - HT.sIx xs.length 0 lo)) (Nat.le_trans (cutV_length xs lo hi) hz) (q2 hw)
end
end Z

set_option Elab.async false
set_option linter.all false
set_option maxRecDepth 100000
set_option maxHeartbeats 2000000
/-! # ZA: plain values, plain stores, and how HandS's abstract heap bears them -/
namespace Z
open PySem PySem.Spec PyProof.Rows L2

inductive Kind where
  | lst | dic | ins
  deriving DecidableEq

/-- plain values: `ref` names a cell of the store, `tmp` (`tmd`) is a new list (dict) that nobody holds yet, `frz` a list that nobody changes, `glo` a def or class of the module -/
inductive PV where
  | non | bl (b : Bool) | int (i : Int) | str (s : Str) | tup (xs : List PV) | frz (xs : List PV) | ref (k : Kind) (n : Nat) | glo (x : Str) | tmp (xs : List PV) | tmd (ks vs : List PV)
  deriving Inhabited

/-- lck: a dict that is walked, read alone -/
inductive Cell where
  | lst (xs : List PV) | dic (ks vs : List PV) | ins (c : Str) (fs : List (Str × PV)) | lck (ks vs : List PV)
def Cell.kind : Cell → Kind
  | .lst _ => .lst | .dic _ _ => .dic | .ins _ _ => .ins | .lck _ _ => .dic
abbrev Store := List Cell
abbrev kinds (S : Store) : List Kind := S.map Cell.kind

structure Ctx where
  K : PySem.W.Frag
  mg : Str → Option Value
  T : List (Addr × Str)
/-- where the store's cells lie -/
structure Mp where
  f : Nat → Addr
  ks : List Kind

/-- a list that is read and never changes -/
def SqF (K : PySem.W.Frag) (H : Hp) (a : Addr) (xs : List V) : Prop :=
  (∃ o, H a = some (.frz o (.lst xs))) ∨
    ∃ (o : Obj) (its : Array Value) (n : Nat), K.lookup a = some o ∧ o.cls = .type "list" ∧ o.dict = none ∧ o.data = .seq its n ∧ its.size ≤ sizeLine ∧ Vals xs its.toList
theorem SqF.sql {K : PySem.W.Frag} {H : Hp} {a : Addr} {xs : List V} (h : SqF K H a xs) : SqL K H a xs := by
  rcases h with ⟨o, h⟩ | h
  · exact .inl (.inr ⟨o, h⟩)
  · exact .inr h

mutual
def RV (Y : Ctx) (H : Hp) (M : Mp) : PV → V → Prop
  | .non, v => v = .non
  | .bl b, v => v = .bl b
  | .int i, v => v = .int i
  | .str s, v => v = .str s
  | .tup xs, v => ∃ a vs, v = .ref a ∧ SqD H a vs ∧ RVs Y H M xs vs
  | .frz xs, v => ∃ a vs, v = .ref a ∧ SqF Y.K H a vs ∧ RVs Y H M xs vs
  | .ref k n, v => M.ks[n]? = some k ∧ v = .ref (M.f n)
  | .glo x, v => ∃ a, Y.mg x = some (.ref a) ∧ v = .ref a
  | .tmp _, _ => False
  | .tmd _ _, _ => False
def RVs (Y : Ctx) (H : Hp) (M : Mp) : List PV → List V → Prop
  | [], vs => vs = []
  | x :: xs, vs => ∃ v vr, vs = v :: vr ∧ RV Y H M x v ∧ RVs Y H M xs vr
end
/-- dict keys: ints and texts -/
def keyP : Key → PV
  | .inl i => .int i
  | .inr s => .str s
/-- an expression's result: a value, or a new list or dict -/
def RX (Y : Ctx) (H : Hp) (M : Mp) : PV → V → Prop
  | .tmp xs, v => ∃ a vs, v = .ref a ∧ H a = some (.lst vs) ∧ (∀ i, i < M.ks.length → M.f i ≠ a) ∧ RVs Y H M xs vs
  | .tmd ks xs, v => ∃ a kvs, v = .ref a ∧ H a = some (.dK kvs) ∧ (∀ i, i < M.ks.length → M.f i ≠ a) ∧ ks = kvs.map (fun p => keyP p.1) ∧ RVs Y H M xs (kvs.map (·.2))
  | x, v => RV Y H M x v
theorem RX.of {Y : Ctx} {H : Hp} {M : Mp} : ∀ {x : PV} {v : V}, RV Y H M x v → RX Y H M x v
  | .non, _, h => h | .bl _, _, h => h | .int _, _, h => h | .str _, _, h => h | .tup _, _, h => h | .frz _, _, h => h | .ref _ _, _, h => h | .tmp _, _, h => absurd h (by simp [RV]) | .tmd _ _, _, h => absurd h (by simp [RV]) | .glo _, _, h => h

def RFs (Y : Ctx) (H : Hp) (M : Mp) : List (Str × PV) → List (Str × V) → Prop
  | [], ks => ks = []
  | p :: ps, ks => ∃ v r, ks = (p.1, v) :: r ∧ RV Y H M p.2 v ∧ RFs Y H M ps r
def RC (Y : Ctx) (H : Hp) (M : Mp) : Cell → Addr → Prop
  | .lst xs, a => ∃ vs, H a = some (.lst vs) ∧ RVs Y H M xs vs
  | .dic ks xs, a => ∃ kvs, H a = some (.dK kvs) ∧ ks = kvs.map (fun p => keyP p.1) ∧ RVs Y H M xs (kvs.map (·.2))
  | .ins c fs, a => ∃ C dx vs, Y.mg c = some (.ref C) ∧ H a = some (.ins C dx vs) ∧ RFs Y H M fs vs
  | .lck ks xs, a => ∃ o kvs, H a = some (.frz o (.dK kvs)) ∧ ks = kvs.map (fun p => keyP p.1) ∧ RVs Y H M xs (kvs.map (·.2))
/-- what is frozen for good -/
def Stay : HO → Prop
  | .tup _ => True
  | .lst _ => True
  | _ => False

structure RS (Y : Ctx) (H : Hp) (M : Mp) (S : Store) : Prop where
  ks : M.ks = kinds S
  cell : ∀ i c, S[i]? = some c → RC Y H M c (M.f i)
  inj : ∀ i j, i < M.ks.length → j < M.ks.length → M.f i = M.f j → i = j
  tabs : LamX.Tabs Y.T H

/-- what an evaluation leaves as it was -/
structure Nxt (H : Hp) (M : Mp) (H' : Hp) (M' : Mp) : Prop where
  keep : ∀ a o, H a = some o → (∀ ps, o ≠ .tbl ps) → (∀ i, i < M.ks.length → M.f i ≠ a) → H' a = some o
  tup : ∀ a vs, H a = some (.tup vs) → H' a = some (.tup vs)
  frz : ∀ a o u, H a = some (.frz o u) → H' a = some (.frz o u)
  mu : ∀ i, i < M.ks.length → M'.f i = M.f i
  ks : M.ks <+: M'.ks
  new : ∀ i, M.ks.length ≤ i → i < M'.ks.length → H (M'.f i) = none
  dom : ∀ a, H a ≠ none → H' a ≠ none

section
variable {Y : Ctx} {H H1 H2 : Hp} {M M1 M2 : Mp}
theorem Nxt.refl : Nxt H M H M := ⟨fun _ _ h _ _ => h, fun _ _ h => h, fun _ _ _ h => h, fun _ _ => rfl, List.prefix_refl _, fun i h1 h2 => absurd h2 (by omega), fun _ h => h⟩
theorem Nxt.len (n : Nxt H M H1 M1) : M.ks.length ≤ M1.ks.length := n.ks.length_le
theorem Nxt.kat (n : Nxt H M H1 M1) {i : Nat} {k : Kind} (h : M.ks[i]? = some k) : M1.ks[i]? = some k := by
  obtain ⟨r, e⟩ := n.ks
  rw [← e, List.getElem?_append_left (List.getElem?_eq_some_iff.mp h).1]
  exact h
theorem Nxt.trans (a : Nxt H M H1 M1) (b : Nxt H1 M1 H2 M2) : Nxt H M H2 M2 where
  keep := fun x o h nt hi => by
    refine b.keep x o (a.keep x o h nt hi) nt fun i hl => ?_
    by_cases hi' : i < M.ks.length
    · rw [a.mu i hi']; exact hi i hi'
    · intro e
      have := a.new i (by omega) hl
      rw [e, h] at this; cases this
  tup := fun x vs h => b.tup x vs (a.tup x vs h)
  frz := fun x o u h => b.frz x o u (a.frz x o u h)
  mu := fun i h => (b.mu i (Nat.lt_of_lt_of_le h a.len)).trans (a.mu i h)
  ks := a.ks.trans b.ks
  new := fun i h1 h2 => by
    by_cases hi : i < M1.ks.length
    · rw [b.mu i hi]; exact a.new i h1 hi
    · have h3 := b.new i (by omega) h2
      cases e : H (M2.f i) with
      | none => rfl
      | some o => exact absurd h3 (a.dom _ (by rw [e]; simp))
  dom := fun x h => b.dom x (a.dom x h)
theorem Nxt.sqT (n : Nxt H M H1 M1) {K : PySem.W.Frag} {a : Addr} {vs : List V} (h : SqT K H a vs) : SqT K H1 a vs := by
  rcases h with (h | ⟨o, h⟩) | h
  · exact .inl (.inl (n.tup _ _ h))
  · exact .inl (.inr ⟨o, n.frz _ _ _ h⟩)
  · exact .inr h
theorem Nxt.sqD (n : Nxt H M H1 M1) {a : Addr} {vs : List V} (h : SqD H a vs) : SqD H1 a vs := let ⟨o, h, hd⟩ := h; ⟨o, n.frz _ _ _ h, hd⟩
theorem Nxt.sqF (n : Nxt H M H1 M1) {K : PySem.W.Frag} {a : Addr} {vs : List V} (h : SqF K H a vs) : SqF K H1 a vs := by
  rcases h with ⟨o, h⟩ | h
  · exact .inl ⟨o, n.frz _ _ _ h⟩
  · exact .inr h

mutual
theorem RV.nxt (n : Nxt H M H1 M1) : ∀ {x : PV} {v : V}, RV Y H M x v → RV Y H1 M1 x v
  | .non, _, h => by simpa [RV] using h
  | .bl _, _, h => by simpa [RV] using h
  | .int _, _, h => by simpa [RV] using h
  | .str _, _, h => by simpa [RV] using h
  | .tup xs, v, h => by
    simp only [RV] at h ⊢
    obtain ⟨a, vs, e, h1, h2⟩ := h
    exact ⟨a, vs, e, n.sqD h1, RVs.nxt n h2⟩
  | .frz xs, v, h => by
    simp only [RV] at h ⊢
    obtain ⟨a, vs, e, h1, h2⟩ := h
    exact ⟨a, vs, e, n.sqF h1, RVs.nxt n h2⟩
  | .ref k i, v, h => by
    simp only [RV] at h ⊢
    refine ⟨n.kat h.1, ?_⟩
    rw [n.mu i (List.getElem?_eq_some_iff.mp h.1).1]; exact h.2
  | .tmp _, _, h => by simp [RV] at h
  | .tmd _ _, _, h => by simp [RV] at h
  | .glo _, _, h => by simpa [RV] using h
theorem RVs.nxt (n : Nxt H M H1 M1) : ∀ {xs : List PV} {vs : List V}, RVs Y H M xs vs → RVs Y H1 M1 xs vs
  | [], _, h => by simpa [RVs] using h
  | x :: xs, vs, h => by
    simp only [RVs] at h ⊢
    obtain ⟨v, vr, e, h1, h2⟩ := h
    exact ⟨v, vr, e, RV.nxt n h1, RVs.nxt n h2⟩
end
theorem Nxt.apart (n : Nxt H M H1 M1) {a : Addr} {o : HO} (h1 : H a = some o) (h2 : ∀ i, i < M.ks.length → M.f i ≠ a) : ∀ i, i < M1.ks.length → M1.f i ≠ a := fun i hi => by
  by_cases hi' : i < M.ks.length
  · rw [n.mu i hi']; exact h2 i hi'
  · intro z
    have := n.new i (by omega) hi
    rw [z, h1] at this; cases this
theorem RX.nxt (n : Nxt H M H1 M1) : ∀ {x : PV} {v : V}, RX Y H M x v → RX Y H1 M1 x v
  | .non, _, h => RV.nxt (Y := Y) n (x := .non) h
  | .bl b, _, h => RV.nxt (Y := Y) n (x := .bl b) h
  | .int i, _, h => RV.nxt (Y := Y) n (x := .int i) h
  | .str s, _, h => RV.nxt (Y := Y) n (x := .str s) h
  | .tup xs, _, h => RV.nxt (Y := Y) n (x := .tup xs) h
  | .frz xs, _, h => RV.nxt (Y := Y) n (x := .frz xs) h
  | .ref k i, _, h => RV.nxt (Y := Y) n (x := .ref k i) h
  | .glo x, _, h => RV.nxt (Y := Y) n (x := .glo x) h
  | .tmp xs, v, h => by
    obtain ⟨a, vs, e, h1, h2, h3⟩ := h
    exact ⟨a, vs, e, n.keep a _ h1 (fun ps z => by cases z) h2, n.apart h1 h2, RVs.nxt n h3⟩
  | .tmd ks xs, v, h => by
    obtain ⟨a, vs, e, h1, h2, h3, h4⟩ := h
    exact ⟨a, vs, e, n.keep a _ h1 (fun ps z => by cases z) h2, n.apart h1 h2, h3, RVs.nxt n h4⟩
theorem RFs.nxt (n : Nxt H M H1 M1) : ∀ {fs : List (Str × PV)} {vs : List (Str × V)}, RFs Y H M fs vs → RFs Y H1 M1 fs vs
  | [], _, h => h
  | p :: ps, vs, h => by
    obtain ⟨v, r, e, h1, h2⟩ := h
    exact ⟨v, r, e, RV.nxt n h1, RFs.nxt n h2⟩
theorem RVs.length : ∀ {xs : List PV} {vs : List V}, RVs Y H M xs vs → vs.length = xs.length
  | [], _, h => by simp only [RVs] at h; subst h; rfl
  | x :: xs, _, h => by
    simp only [RVs] at h
    obtain ⟨v, vr, rfl, _, h2⟩ := h
    simp [RVs.length h2]
theorem RVs.get : ∀ {xs : List PV} {vs : List V} {i : Nat} {x : PV}, RVs Y H M xs vs → xs[i]? = some x → ∃ v, vs[i]? = some v ∧ RV Y H M x v
  | [], _, _, _, _, h => by simp at h
  | y :: xs, _, 0, x, h, e => by
    simp only [RVs] at h
    obtain ⟨v, vr, rfl, h1, _⟩ := h
    simp at e; subst e
    exact ⟨v, rfl, h1⟩
  | y :: xs, _, i + 1, x, h, e => by
    simp only [RVs] at h
    obtain ⟨v, vr, rfl, _, h2⟩ := h
    obtain ⟨w, h3, h4⟩ := RVs.get (i := i) h2 (by simpa using e)
    exact ⟨w, by simpa using h3, h4⟩
theorem RVs.getV : ∀ {xs : List PV} {vs : List V} {i : Nat} {v : V}, RVs Y H M xs vs → vs[i]? = some v → ∃ x, xs[i]? = some x ∧ RV Y H M x v
  | xs, vs, i, v, h, e => by
    have hi : i < xs.length := by rw [← RVs.length h]; exact (List.getElem?_eq_some_iff.mp e).1
    obtain ⟨w, h1, h2⟩ := RVs.get h (List.getElem?_eq_getElem hi)
    rw [e] at h1; cases h1
    exact ⟨_, List.getElem?_eq_getElem hi, h2⟩
theorem RVs.nil : RVs Y H M [] [] := by simp [RVs]
theorem RVs.cons {x : PV} {v : V} {xs : List PV} {vs : List V} (h1 : RV Y H M x v) (h2 : RVs Y H M xs vs) : RVs Y H M (x :: xs) (v :: vs) := by
  simp only [RVs]; exact ⟨v, vs, rfl, h1, h2⟩
theorem RVs.append : ∀ {xs ys : List PV} {vs ws : List V}, RVs Y H M xs vs → RVs Y H M ys ws → RVs Y H M (xs ++ ys) (vs ++ ws)
  | [], _, _, _, h, h2 => by simp only [RVs] at h; subst h; exact h2
  | x :: xs, _, _, _, h, h2 => by
    simp only [RVs] at h
    obtain ⟨v, vr, rfl, h1, h3⟩ := h
    exact RVs.cons h1 (RVs.append h3 h2)
theorem RVs.take : ∀ {xs : List PV} {vs : List V} (n : Nat), RVs Y H M xs vs → RVs Y H M (xs.take n) (vs.take n)
  | _, _, 0, _ => by simp [RVs]
  | [], _, n + 1, h => by simp only [RVs] at h; subst h; simp [RVs]
  | x :: xs, _, n + 1, h => by
    simp only [RVs] at h
    obtain ⟨v, vr, rfl, h1, h3⟩ := h
    exact RVs.cons h1 (RVs.take n h3)
theorem RVs.drop : ∀ {xs : List PV} {vs : List V} (n : Nat), RVs Y H M xs vs → RVs Y H M (xs.drop n) (vs.drop n)
  | _, _, 0, h => h
  | [], _, n + 1, h => by simp only [RVs] at h; subst h; simp [RVs]
  | x :: xs, _, n + 1, h => by
    simp only [RVs] at h
    obtain ⟨v, vr, rfl, h1, h3⟩ := h
    exact RVs.drop n h3
theorem RVs.set {y : PV} {w : V} (r : RV Y H M y w) : ∀ {xs : List PV} {vs : List V} (n : Nat), RVs Y H M xs vs → RVs Y H M (xs.set n y) (vs.set n w)
  | [], _, n, h => by simp only [RVs] at h; subst h; simp [RVs]
  | x :: xs, _, 0, h => by
    simp only [RVs] at h
    obtain ⟨v, vr, rfl, h1, h3⟩ := h
    exact RVs.cons r h3
  | x :: xs, _, n + 1, h => by
    simp only [RVs] at h
    obtain ⟨v, vr, rfl, h1, h3⟩ := h
    exact RVs.cons h1 (RVs.set r n h3)
theorem RVs.eraseIdx : ∀ {xs : List PV} {vs : List V} (n : Nat), RVs Y H M xs vs → RVs Y H M (xs.eraseIdx n) (vs.eraseIdx n)
  | [], _, n, h => by simp only [RVs] at h; subst h; simp [RVs]
  | x :: xs, _, 0, h => by
    simp only [RVs] at h
    obtain ⟨v, vr, rfl, h1, h3⟩ := h
    exact h3
  | x :: xs, _, n + 1, h => by
    simp only [RVs] at h
    obtain ⟨v, vr, rfl, h1, h3⟩ := h
    exact RVs.cons h1 (RVs.eraseIdx n h3)
theorem RVs.reverse : ∀ {xs : List PV} {vs : List V}, RVs Y H M xs vs → RVs Y H M xs.reverse vs.reverse
  | [], _, h => by simp only [RVs] at h; subst h; exact RVs.nil
  | x :: xs, _, h => by
    simp only [RVs] at h
    obtain ⟨v, vr, rfl, h1, h3⟩ := h
    rw [List.reverse_cons, List.reverse_cons]
    exact RVs.append (RVs.reverse h3) (RVs.cons h1 RVs.nil)
theorem RVs.of_get : ∀ {xs : List PV} {vs : List V}, xs.length = vs.length → (∀ (i : Nat) x v, xs[i]? = some x → vs[i]? = some v → RV Y H M x v) → RVs Y H M xs vs
  | [], [], _, _ => RVs.nil
  | x :: xs, v :: vs, hl, h => RVs.cons (h 0 x v rfl rfl) (RVs.of_get (by simpa using hl) fun i x v h1 h2 => h (i + 1) x v (by simpa using h1) (by simpa using h2))

theorem RC.there : ∀ {c : Cell} {a : Addr}, RC Y H M c a → ∃ o, H a = some o ∧ (∀ ps, o ≠ .tbl ps) ∧ (∀ vs, o ≠ .tup vs) ∧ ∀ ob u, Stay u → o ≠ .frz ob u
  | .lst _, _, h => by obtain ⟨vs, e, _⟩ := h; exact ⟨_, e, fun _ z => (by cases z), fun _ z => (by cases z), fun _ _ _ z => (by cases z)⟩
  | .dic _ _, _, h => by obtain ⟨vs, e, _⟩ := h; exact ⟨_, e, fun _ z => (by cases z), fun _ z => (by cases z), fun _ _ _ z => (by cases z)⟩
  | .ins _ _, _, h => by obtain ⟨C, dx, vs, _, e, _⟩ := h; exact ⟨_, e, fun _ z => (by cases z), fun _ z => (by cases z), fun _ _ _ z => (by cases z)⟩
  | .lck _ _, _, h => by obtain ⟨o, vs, e, _⟩ := h; exact ⟨_, e, fun _ z => (by cases z), fun _ z => (by cases z), fun _ u st z => (by cases z; exact st)⟩
theorem RC.open : ∀ {c : Cell} {a : Addr}, RC Y H M c a → (∀ ks vs, c ≠ .lck ks vs) → ∀ ob u, H a ≠ some (.frz ob u)
  | .lst _, _, h, _, _, _, z => by obtain ⟨vs, e, _⟩ := h; rw [e] at z; cases z
  | .dic _ _, _, h, _, _, _, z => by obtain ⟨vs, e, _⟩ := h; rw [e] at z; cases z
  | .ins _ _, _, h, _, _, _, z => by obtain ⟨C, dx, vs, _, e, _⟩ := h; rw [e] at z; cases z
  | .lck _ _, _, _, h, _, _, _ => h _ _ rfl
/-- the content of a cell under another heap that holds it as it was -/
theorem RC.nxt (n : Nxt H M H1 M1) : ∀ {c : Cell} {a : Addr}, RC Y H M c a → H1 a = H a → RC Y H1 M1 c a
  | .lst _, _, h, e => by obtain ⟨vs, e1, h1⟩ := h; exact ⟨vs, e.trans e1, RVs.nxt n h1⟩
  | .dic _ _, _, h, e => by obtain ⟨vs, e1, h1, h2⟩ := h; exact ⟨vs, e.trans e1, h1, RVs.nxt n h2⟩
  | .ins _ _, _, h, e => by obtain ⟨C, dx, vs, e0, e1, h1⟩ := h; exact ⟨C, dx, vs, e0, e.trans e1, RFs.nxt n h1⟩
  | .lck _ _, _, h, e => by obtain ⟨o, vs, e1, h1, h2⟩ := h; exact ⟨o, vs, e.trans e1, h1, RVs.nxt n h2⟩
theorem RS.len {S : Store} (r : RS Y H M S) : M.ks.length = S.length := by rw [r.ks, List.length_map]
theorem RS.at {S : Store} (r : RS Y H M S) {i : Nat} (h : i < M.ks.length) : ∃ c, S[i]? = some c ∧ RC Y H M c (M.f i) := by
  rw [r.len] at h
  exact ⟨S[i], List.getElem?_eq_getElem h, r.cell i _ (List.getElem?_eq_getElem h)⟩
theorem RS.ne {S : Store} (r : RS Y H M S) {i : Nat} (h : i < M.ks.length) {a : Addr} (ha : H a = none) : M.f i ≠ a := by
  obtain ⟨c, _, hc⟩ := r.at h
  obtain ⟨o, e, _⟩ := hc.there
  intro z; rw [z, ha] at e; cases e

/-! ### the heap grows, tracked things stay -/
theorem Nxt.same (s : Same H H1) : Nxt H M H1 M := ⟨fun a o h _ _ => s a o h, fun a vs h => s _ _ h, fun a o u h => s _ _ h, fun _ _ => rfl, List.prefix_refl _, fun i h1 h2 => absurd h2 (by omega), fun a h => by
  cases e : H a with
  | none => exact absurd e h
  | some o => rw [s a o e]; simp⟩
theorem RS.same {S : Store} (r : RS Y H M S) (s : Same H H1) : RS Y H1 M S where
  ks := r.ks
  cell := fun i c h => by
    have hc := r.cell i c h
    obtain ⟨o, e, _⟩ := hc.there
    exact hc.nxt (Nxt.same s) (by rw [s _ _ e, e])
  inj := r.inj
  tabs := r.tabs.ext s
theorem same_upd {p : Addr} {o : HO} (hp : H p = none) : Same H (upd H p o) := fun b u e => by rw [upd_ne (ne_of_none e hp)]; exact e
/-! ### a cell is changed -/
theorem RS.nolck {S : Store} (r : RS Y H M S) {i : Nat} {k : Kind} (hk : M.ks[i]? = some k) (h : k ≠ .dic) : ∀ ks vs, S[i]? ≠ some (.lck ks vs) := fun ks vs z => by
  rw [r.ks, List.getElem?_map, z] at hk
  exact h (Option.some.inj hk).symm
theorem Nxt.cell {S : Store} (r : RS Y H M S) {i : Nat} (hi : i < M.ks.length) (hl : ∀ ks vs, S[i]? ≠ some (.lck ks vs)) {o : HO} : Nxt H M (upd H (M.f i) o) M := by
  obtain ⟨c, hS, hc⟩ := r.at hi
  obtain ⟨o', e, h1, h2, h3⟩ := hc.there
  refine ⟨fun a u h _ hn => by rw [upd_ne (Ne.symm (hn i hi))]; exact h, fun a vs h => ?_, fun a ob u h => ?_, fun _ _ => rfl, List.prefix_refl _, fun i h1 h2 => absurd h2 (by omega), fun a h => ?_⟩
  · rw [upd_ne]; exact h
    intro z; rw [z, e] at h; cases h; exact h2 _ rfl
  · rw [upd_ne]; exact h
    intro z; rw [z] at h; exact hc.open (fun ks vs w => hl ks vs (by rw [hS, w])) _ _ h
  · by_cases z : a = M.f i
    · rw [z, upd_same]; simp
    · rw [upd_ne z]; exact h
theorem tabs_cell {p : Addr} {o u : HO} {T : List (Addr × Str)} (t : LamX.Tabs T H) (hp : H p = some u) (h1 : ∀ ps, u ≠ .tbl ps) (h2 : ∀ c q, u ≠ LamX.CodeO c q) : LamX.Tabs T (upd H p o) := fun x hx => by
  obtain ⟨ps, a1, a2, a3⟩ := t x hx
  refine ⟨ps, by rw [upd_ne (fun z => by rw [z, hp] at a1; cases a1; exact h1 _ rfl)]; exact a1, a2, fun pos cv hc => ?_⟩
  obtain ⟨c, e1, e2⟩ := a3 pos cv hc
  exact ⟨c, e1, by rw [upd_ne (fun z => by rw [z, hp] at e2; cases e2; exact h2 _ _ rfl)]; exact e2⟩
theorem RC.noCode {c : Cell} {a : Addr} {u : HO} (h : RC Y H M c a) (e : H a = some u) : ∀ c q, u ≠ LamX.CodeO c q := fun c' q z => by
  subst z
  unfold LamX.CodeO at e
  cases c with
  | lst xs => obtain ⟨vs, e1, _⟩ := h; rw [e] at e1; cases e1
  | dic ks xs => obtain ⟨vs, e1, _⟩ := h; rw [e] at e1; cases e1
  | ins c fs => obtain ⟨C, dx, vs, _, e1, _⟩ := h; rw [e] at e1; cases e1
  | lck ks xs => obtain ⟨o, vs, e1, _⟩ := h; rw [e] at e1; cases e1
theorem RS.set {S : Store} (r : RS Y H M S) {i : Nat} (hi : i < M.ks.length) (hl : ∀ ks vs, S[i]? ≠ some (.lck ks vs)) {o : HO} {c : Cell} (hk : M.ks[i]? = some c.kind) (hc : RC Y (upd H (M.f i) o) M c (M.f i)) : RS Y (upd H (M.f i) o) M (S.set i c) where
  ks := by
    rw [r.ks] at hk ⊢
    apply List.ext_getElem?
    intro j
    rw [List.getElem?_map, List.getElem?_map, List.getElem?_set]
    by_cases h : i = j
    · subst h
      rw [List.getElem?_map] at hk
      rw [if_pos rfl, if_pos (by rw [← r.len]; exact hi), hk] <;> rfl
    · rw [if_neg h]
  cell := fun j d h => by
    by_cases e : j = i
    · subst e
      rw [List.getElem?_set_self (by rw [← r.len]; exact hi)] at h
      cases h; exact hc
    · rw [List.getElem?_set_ne (Ne.symm e)] at h
      have hd := r.cell j d h
      have hj : j < M.ks.length := by rw [r.len]; exact (List.getElem?_eq_some_iff.mp h).1
      exact hd.nxt (Nxt.cell r hi hl) (upd_ne fun z => e (r.inj _ _ hj hi z))
  inj := r.inj
  tabs := by
    obtain ⟨d, hS, hd⟩ := r.at hi
    obtain ⟨u, e, h1, _⟩ := hd.there
    exact tabs_cell r.tabs e h1 (hd.noCode e)
/-! ### a new cell -/
def Mp.snoc (M : Mp) (a : Addr) (k : Kind) : Mp := ⟨fun i => if i = M.ks.length then a else M.f i, M.ks ++ [k]⟩
theorem Mp.snoc_lt {a : Addr} {k : Kind} {i : Nat} (h : i < M.ks.length) : (M.snoc a k).f i = M.f i := if_neg (Nat.ne_of_lt h)
theorem Mp.snoc_eq {a : Addr} {k : Kind} : (M.snoc a k).f M.ks.length = a := if_pos rfl
/-- the map grows by an address that H0 does not have -/
theorem Nxt.snoc {H0 : Hp} {M0 : Mp} (n : Nxt H0 M0 H M) {a : Addr} {k : Kind} (ha : H0 a = none) : Nxt H0 M0 H (M.snoc a k) where
  keep := n.keep
  tup := n.tup
  frz := n.frz
  mu := fun i h => by rw [Mp.snoc_lt (Nat.lt_of_lt_of_le h n.len)]; exact n.mu i h
  ks := n.ks.trans (List.prefix_append _ _)
  new := fun i h1 h2 => by
    by_cases hi : i < M.ks.length
    · rw [Mp.snoc_lt hi]; exact n.new i h1 hi
    · have : i = M.ks.length := by
        have : (M.snoc a k).ks.length = M.ks.length + 1 := by simp [Mp.snoc]
        omega
      subst this
      rw [Mp.snoc_eq]; exact ha
  dom := n.dom
end
end Z

set_option Elab.async false
set_option linter.all false
set_option maxRecDepth 100000
set_option maxHeartbeats 2000000
/-! # ZB: results, readings of denotations, the first constructs -/
namespace Z
open PySem PySem.Spec PyProof.Rows L2

inductive Res (α : Type) where
  | ok (a : α) (S : Store) | err (c : Str) (o : Option PV) (S : Store) | bad
def Res.bind {α β : Type} (r : Res α) (f : α → Store → Res β) : Res β := match r with
  | .ok a S => f a S
  | .err c o S => .err c o S
  | .bad => .bad
@[simp] theorem Res.bind_ok {α β : Type} (a : α) (S : Store) (f : α → Store → Res β) : (Res.ok a S).bind f = f a S := rfl
@[simp] theorem Res.bind_err {α β : Type} (c : Str) (o : Option PV) (S : Store) (f : α → Store → Res β) : (Res.err c o S).bind f = .err c o S := rfl
@[simp] theorem Res.bind_bad {α β : Type} (f : α → Store → Res β) : (Res.bad : Res α).bind f = .bad := rfl

abbrev LEnv := List (Option PV)
abbrev DE := LEnv → Store → Res PV
abbrev DA := LEnv → Store → Res (List PV)
abbrev DT := LEnv → Store → Res Bool

structure RE (Y : Ctx) (H : Hp) (M : Mp) (ρ : LEnv) (σ : L2.St) : Prop where
  len : ρ.length = σ.length
  get : ∀ (i : Nat) x, ρ[i]? = some (some x) → ∃ v, σ[i]? = some (some v) ∧ RV Y H M x v
/-- an exception: its class by name, its field -/
def RExc (Y : Ctx) (H : Hp) (M : Mp) (c : Str) (o : Option PV) (cls : Value) (d : Option Addr) : Prop :=
  (∃ C, Y.mg c = some (.ref C) ∧ cls = .ref C) ∧ match o with
    | none => d = none
    | some x => ∃ dd v, d = some dd ∧ H dd = some (.xd [(("name" : Str), v)]) ∧ RV Y H M x v
/-- a new list or dict is new -/
def Fr (H : Hp) : PV → V → Prop
  | .tmp _, v => ∀ a, v = .ref a → H a = none
  | .tmd _ _, v => ∀ a, v = .ref a → H a = none
  | _, _ => True

section
variable {Y : Ctx} {H H0 H1 H2 : Hp} {M M0 M1 M2 : Mp} {ρ : LEnv} {σ : L2.St} {S : Store} {W : WX}
theorem RE.nxt (r : RE Y H M ρ σ) (n : Nxt H M H1 M1) : RE Y H1 M1 ρ σ := ⟨r.len, fun i x h => let ⟨v, h1, h2⟩ := r.get i x h; ⟨v, h1, h2.nxt n⟩⟩
theorem RE.set (r : RE Y H M ρ σ) {x : PV} {v : V} (h : RV Y H M x v) (i : Nat) : RE Y H M (ρ.set i (some x)) (σ.set i (some v)) where
  len := by rw [List.length_set, List.length_set, r.len]
  get := fun j y e => by
    by_cases hj : i = j
    · subst hj
      rw [List.getElem?_set] at e ⊢
      rw [if_pos rfl] at e ⊢
      split at e
      · rename_i hl
        cases e
        exact ⟨v, by rw [if_pos (by rw [← r.len]; exact hl)], h⟩
      · cases e
    · rw [List.getElem?_set_ne hj] at e ⊢
      exact r.get j y e
theorem RE.weak (r : RE Y H M ρ σ) {ρ' : LEnv} (hl : ρ'.length = ρ.length) (h : ∀ (i : Nat) x, ρ'[i]? = some (some x) → ρ[i]? = some (some x)) : RE Y H M ρ' σ :=
  ⟨hl.trans r.len, fun i x e => r.get i x (h i x e)⟩
theorem Fr.pull (n : Nxt H0 M0 H1 M1) : ∀ {x : PV} {v : V}, Fr H1 x v → Fr H0 x v
  | .tmp _, v, h => fun a e => by
    cases q : H0 a with
    | none => rfl
    | some o => exact absurd (h a e) (n.dom a (by rw [q]; simp))
  | .tmd _ _, v, h => fun a e => by
    cases q : H0 a with
    | none => rfl
    | some o => exact absurd (h a e) (n.dom a (by rw [q]; simp))
  | .non, _, _ => True.intro | .bl _, _, _ => True.intro | .int _, _, _ => True.intro | .str _, _, _ => True.intro | .tup _, _, _ => True.intro | .frz _, _, _ => True.intro | .ref _ _, _, _ => True.intro | .glo _, _, _ => True.intro
theorem Fr.of : ∀ {x : PV} {v : V}, RV Y H M x v → Fr H0 x v
  | .tmp _, v, h => by simp [RV] at h
  | .tmd _ _, v, h => by simp [RV] at h
  | .non, _, _ => True.intro | .bl _, _, _ => True.intro | .int _, _, _ => True.intro | .str _, _, _ => True.intro | .tup _, _, _ => True.intro | .frz _, _, _ => True.intro | .ref _ _, _, _ => True.intro | .glo _, _, _ => True.intro

/-- what an outcome grants -/
def Out (Y : Ctx) (W : WX) (σ : L2.St) (H : Hp) (M : Mp) (r : Res PV) (Q : VK) : Prop := match r with
  | .ok x S => ∀ M' H' v, Nxt H M H' M' → RS Y H' M' S → RX Y H' M' x v → Fr H x v → Q v H'
  | .err c o S => ∀ M' H' cls d, Nxt H M H' M' → RS Y H' M' S → RExc Y H' M' c o cls d → W cls d σ H'
  | .bad => False
def OutA (Y : Ctx) (W : WX) (σ : L2.St) (H : Hp) (M : Mp) (r : Res (List PV)) (Q : List V → Hp → Prop) : Prop := match r with
  | .ok xs S => ∀ M' H' vs, Nxt H M H' M' → RS Y H' M' S → RVs Y H' M' xs vs → Q vs H'
  | .err c o S => ∀ M' H' cls d, Nxt H M H' M' → RS Y H' M' S → RExc Y H' M' c o cls d → W cls d σ H'
  | .bad => False
def OutT (Y : Ctx) (W : WX) (σ : L2.St) (H : Hp) (M : Mp) (r : Res Bool) (Q : Bool → Hp → Prop) : Prop := match r with
  | .ok b S => ∀ M' H', Nxt H M H' M' → RS Y H' M' S → Q b H'
  | .err c o S => ∀ M' H' cls d, Nxt H M H' M' → RS Y H' M' S → RExc Y H' M' c o cls d → W cls d σ H'
  | .bad => False
def tOf (Y : Ctx) (W : WX) (d : DE) : TE := fun σ H Q => ∃ M ρ S, RS Y H M S ∧ RE Y H M ρ σ ∧ Out Y W σ H M (d ρ S) Q
def tOfA (Y : Ctx) (W : WX) (d : DA) : TA := fun σ H Q => ∃ M ρ S, RS Y H M S ∧ RE Y H M ρ σ ∧ OutA Y W σ H M (d ρ S) Q
def tOfT (Y : Ctx) (W : WX) (d : DT) : TT := fun σ H Q => ∃ M ρ S, RS Y H M S ∧ RE Y H M ρ σ ∧ OutT Y W σ H M (d ρ S) Q

theorem Out.pull {r : Res PV} {Q : VK} (h : Out Y W σ H0 M0 r Q) (n : Nxt H0 M0 H1 M1) : Out Y W σ H1 M1 r Q := by
  cases r with
  | ok x S => exact fun M' H' v n' rs rx fr => h M' H' v (n.trans n') rs rx (fr.pull n)
  | err c o S => exact fun M' H' cls d n' rs rx => h M' H' cls d (n.trans n') rs rx
  | bad => exact h
theorem OutA.pull {r : Res (List PV)} {Q : List V → Hp → Prop} (h : OutA Y W σ H0 M0 r Q) (n : Nxt H0 M0 H1 M1) : OutA Y W σ H1 M1 r Q := by
  cases r with
  | ok x S => exact fun M' H' v n' rs rx => h M' H' v (n.trans n') rs rx
  | err c o S => exact fun M' H' cls d n' rs rx => h M' H' cls d (n.trans n') rs rx
  | bad => exact h
theorem OutT.pull {r : Res Bool} {Q : Bool → Hp → Prop} (h : OutT Y W σ H0 M0 r Q) (n : Nxt H0 M0 H1 M1) : OutT Y W σ H1 M1 r Q := by
  cases r with
  | ok x S => exact fun M' H' n' rs => h M' H' (n.trans n') rs
  | err c o S => exact fun M' H' cls d n' rs rx => h M' H' cls d (n.trans n') rs rx
  | bad => exact h
/-- outcomes of any kind: pulled back along a step, no stop, errors let out -/
structure GK (Y : Ctx) (W : WX) (σ : L2.St) {α : Type} (G : Hp → Mp → Res α → Prop) : Prop where
  pull : ∀ {H0 M0 H1 M1 r}, G H0 M0 r → Nxt H0 M0 H1 M1 → G H1 M1 r
  bad : ∀ {H M}, ¬ G H M .bad
  err : ∀ {H M c o S}, G H M (.err c o S) → ∀ M' H' cls d, Nxt H M H' M' → RS Y H' M' S → RExc Y H' M' c o cls d → W cls d σ H'
theorem gOut {Q : VK} : GK Y W σ (fun H M r => Out Y W σ H M r Q) := ⟨Out.pull, fun h => h, fun h => h⟩
theorem gOutA {Q : List V → Hp → Prop} : GK Y W σ (fun H M r => OutA Y W σ H M r Q) := ⟨OutA.pull, fun h => h, fun h => h⟩
theorem gOutT {Q : Bool → Hp → Prop} : GK Y W σ (fun H M r => OutT Y W σ H M r Q) := ⟨OutT.pull, fun h => h, fun h => h⟩
/-- an evaluation first, then the rest -/
theorem step {α : Type} {G : Hp → Mp → Res α → Prop} (g : GK Y W σ G) {d : DE} {k : PV → Store → Res α} {Q : VK} (rs : RS Y H M S) (re : RE Y H M ρ σ) (h : G H M ((d ρ S).bind k))
    (f : ∀ M1 S1 x v H1, Nxt H M H1 M1 → RS Y H1 M1 S1 → RE Y H1 M1 ρ σ → RX Y H1 M1 x v → Fr H x v → d ρ S = .ok x S1 → G H1 M1 (k x S1) → Q v H1) : tOf Y W d σ H Q := by
  refine ⟨M, ρ, S, rs, re, ?_⟩
  cases e : d ρ S with
  | ok x S1 =>
    rw [e] at h
    exact fun M' H' v n rs' rx fr => f M' S1 x v H' n rs' (re.nxt n) rx fr e (g.pull h n)
  | err c o S1 => rw [e] at h; exact g.err h
  | bad => rw [e] at h; exact (g.bad h).elim
theorem stepA {α : Type} {G : Hp → Mp → Res α → Prop} (g : GK Y W σ G) {d : DA} {k : List PV → Store → Res α} {Q : List V → Hp → Prop} (rs : RS Y H M S) (re : RE Y H M ρ σ) (h : G H M ((d ρ S).bind k))
    (f : ∀ M1 S1 xs vs H1, Nxt H M H1 M1 → RS Y H1 M1 S1 → RE Y H1 M1 ρ σ → RVs Y H1 M1 xs vs → d ρ S = .ok xs S1 → G H1 M1 (k xs S1) → Q vs H1) : tOfA Y W d σ H Q := by
  refine ⟨M, ρ, S, rs, re, ?_⟩
  cases e : d ρ S with
  | ok x S1 =>
    rw [e] at h
    exact fun M' H' v n rs' rx => f M' S1 x v H' n rs' (re.nxt n) rx e (g.pull h n)
  | err c o S1 => rw [e] at h; exact g.err h
  | bad => rw [e] at h; exact (g.bad h).elim
theorem stepT {α : Type} {G : Hp → Mp → Res α → Prop} (g : GK Y W σ G) {d : DT} {k : Bool → Store → Res α} {Q : Bool → Hp → Prop} (rs : RS Y H M S) (re : RE Y H M ρ σ) (h : G H M ((d ρ S).bind k))
    (f : ∀ M1 S1 b H1, Nxt H M H1 M1 → RS Y H1 M1 S1 → RE Y H1 M1 ρ σ → d ρ S = .ok b S1 → G H1 M1 (k b S1) → Q b H1) : tOfT Y W d σ H Q := by
  refine ⟨M, ρ, S, rs, re, ?_⟩
  cases e : d ρ S with
  | ok x S1 =>
    rw [e] at h
    exact fun M' H' n rs' => f M' S1 x H' n rs' (re.nxt n) e (g.pull h n)
  | err c o S1 => rw [e] at h; exact g.err h
  | bad => rw [e] at h; exact (g.bad h).elim
/-! ### values handed out -/
theorem Out.val {x : PV} {v : V} {Q : VK} (h : Out Y W σ H M (.ok x S) Q) (rs : RS Y H M S) (rx : RV Y H M x v) : Q v H := h M H v Nxt.refl rs (RX.of rx) (Fr.of rx)
theorem Out.same {x : PV} {v : V} {Q : VK} (h : Out Y W σ H M (.ok x S) Q) (rs : RS Y H M S) (s : Same H H1) (rx : RV Y H1 M x v) : Q v H1 := h M H1 v (Nxt.same s) (rs.same s) (RX.of rx) (Fr.of rx)
theorem Out.newTup {xs : List PV} {vs : List V} {Q : VK} (h : Out Y W σ H M (.ok (.tup xs) S) Q) (rs : RS Y H M S) (rx : RVs Y H M xs vs) : NewD H vs Q := fun p o hp hd =>
  h.same rs (same_upd hp) (by simp only [RV]; exact ⟨p, vs, rfl, ⟨o, upd_same, hd⟩, rx.nxt (Nxt.same (same_upd hp))⟩)
theorem Out.newTmp {xs : List PV} {vs : List V} {p : Addr} {Q : VK} (h : Out Y W σ H M (.ok (.tmp xs) S) Q) (rs : RS Y H M S) (hp : H p = none) (rx : RVs Y H M xs vs) : Q (.ref p) (upd H p (.lst vs)) :=
  h M _ _ (Nxt.same (same_upd hp)) (rs.same (same_upd hp)) ⟨p, vs, rfl, upd_same, fun i hi => rs.ne hi hp, rx.nxt (Nxt.same (same_upd hp))⟩ fun a e => by cases e; exact hp
end

theorem _root_.L2.PE.imp {X : Cx} {e : Expr} {t t' : TE} (h : PE X e t) (i : ∀ σ H Q, t' σ H Q → t σ H Q) : PE X e t' := ⟨fun pins s σ H Q I q => h.run pins s σ H Q I (i σ H Q q)⟩
theorem _root_.L2.PT.imp {X : Cx} {e : Expr} {t t' : TT} (h : PT X e t) (i : ∀ σ H Q, t' σ H Q → t σ H Q) : PT X e t' := ⟨fun pins s σ H Q I q => h.run pins s σ H Q I (i σ H Q q)⟩
theorem _root_.L2.PA.imp {X : Cx} {e : List Expr} {t t' : TA} (h : PA X e t) (i : ∀ σ H Q, t' σ H Q → t σ H Q) : PA X e t' := ⟨fun pos pins s σ H Q I q => h.run pos pins s σ H Q I (i σ H Q q)⟩
theorem _root_.L2.PS.imp {X : Cx} {e : Stmt} {t t' : TS} (h : PS X e t) (i : ∀ D σ H, t' D σ H → t D σ H) : PS X e t' := ⟨fun pins s σ H D I q => h.run pins s σ H D I (i D σ H q)⟩
theorem _root_.L2.PSs.imp {X : Cx} {e : List Stmt} {t t' : TS} (h : PSs X e t) (i : ∀ D σ H, t' D σ H → t D σ H) : PSs X e t' := ⟨fun pins s σ H D I q => h.run pins s σ H D I (i D σ H q)⟩

abbrev yOf (X : Cx) (T : List (Addr × Str)) : Ctx := ⟨X.K, X.mg, T⟩
/-- an expression of the text means d -/
abbrev ZE (X : Cx) (T : List (Addr × Str)) (W : WX) (e : Expr) (d : DE) : Prop := PE X e (tOf (yOf X T) W d)
abbrev ZA (X : Cx) (T : List (Addr × Str)) (W : WX) (es : List Expr) (d : DA) : Prop := PA X es (tOfA (yOf X T) W d)
abbrev ZT (X : Cx) (T : List (Addr × Str)) (W : WX) (e : Expr) (d : DT) : Prop := PT X e (tOfT (yOf X T) W d)

/-! ### names, constants -/
def dVar (i : Nat) : DE := fun ρ S => match ρ[i]? with | some (some x) => .ok x S | _ => .bad
def dLit (x : PV) : DE := fun _ S => .ok x S
section
variable {X : Cx} {T : List (Addr × Str)} {W : WX}
theorem ze_var {i : Nat} {x : Str} {pos : Pos} (hN : X.N[i]? = some x) (hv : Vis X.env.scope x) (hd : (x == ("__debug__" : Str)) = false := by decide) (hcd : (x == ("__classdict__" : Str)) = false := by decide) : ZE X T W (.Name x pos) (dVar i) :=
  (pe_var hN hv hd hcd).imp fun σ H Q ⟨M, ρ, S, rs, re, h⟩ => by
    unfold dVar at h
    split at h
    · rename_i x e
      obtain ⟨v, h1, h2⟩ := re.get i x e
      exact ⟨v, h1, h.val rs h2⟩
    · exact h.elim
theorem ze_int {i : Int} {j pos} : ZE X T W (.Constant (.int i) j pos) (dLit (.int i)) := pe_int.imp fun σ H Q ⟨M, ρ, S, rs, re, h⟩ => h.val rs (by simp [RV])
theorem ze_bl {b : Bool} {j pos} : ZE X T W (.Constant (.bool b) j pos) (dLit (.bl b)) := pe_bl.imp fun σ H Q ⟨M, ρ, S, rs, re, h⟩ => h.val rs (by simp [RV])
theorem ze_non {j pos} : ZE X T W (.Constant .none j pos) (dLit .non) := pe_non.imp fun σ H Q ⟨M, ρ, S, rs, re, h⟩ => h.val rs (by simp [RV])
theorem ze_str {s : Str} {j pos} : ZE X T W (.Constant (.str s) j pos) (dLit (.str s)) := pe_str.imp fun σ H Q ⟨M, ρ, S, rs, re, h⟩ => h.val rs (by simp [RV])
/-- a module's constant -/
theorem ze_gint {x : Str} {i : Int} {t : Tok} {pos : Pos} (hg : Gl X x) (hm : X.mg x = some (.int i t)) (hd : (x == ("__debug__" : Str)) = false := by decide) : ZE X T W (.Name x pos) (dLit (.int i)) :=
  (pe_glob (v := .int i) hg hm ⟨_, rfl⟩ hd).imp fun σ H Q ⟨M, ρ, S, rs, re, h⟩ => h.val rs (by simp [RV])
theorem ze_gstr {x s : Str} {t : Tok} {pos : Pos} (hg : Gl X x) (hm : X.mg x = some (.str s t)) (hd : (x == ("__debug__" : Str)) = false := by decide) : ZE X T W (.Name x pos) (dLit (.str s)) :=
  (pe_glob (v := .str s) hg hm ⟨_, rfl⟩ hd).imp fun σ H Q ⟨M, ρ, S, rs, re, h⟩ => h.val rs (by simp [RV])
theorem ze_glo {x : Str} {a : Addr} {pos : Pos} (hg : Gl X x) (hm : X.mg x = some (.ref a)) (hd : (x == ("__debug__" : Str)) = false := by decide) : ZE X T W (.Name x pos) (dLit (.glo x)) :=
  (pe_glob (v := .ref a) hg hm rfl hd).imp fun σ H Q ⟨M, ρ, S, rs, re, h⟩ => h.val rs (by simp only [RV]; exact ⟨a, hm, rfl⟩)

end
/-! ### a new list is bound: it becomes a cell -/
def bnd (x : PV) (S : Store) : Res PV := match x with
  | .tmp xs => .ok (.ref .lst S.length) (S ++ [.lst xs])
  | .tmd ks xs => .ok (.ref .dic S.length) (S ++ [.dic ks xs])
  | x => .ok x S
def dB (d : DE) : DE := fun ρ S => (d ρ S).bind bnd
/-! values are borne by a grown map -/
mutual
theorem RV.snoc {Y : Ctx} {H : Hp} {M : Mp} {a : Addr} {k : Kind} : ∀ {x : PV} {v : V}, RV Y H M x v → RV Y H (M.snoc a k) x v
  | .non, _, h => by simpa [RV] using h
  | .bl _, _, h => by simpa [RV] using h
  | .int _, _, h => by simpa [RV] using h
  | .str _, _, h => by simpa [RV] using h
  | .tup xs, v, h => by
    simp only [RV] at h ⊢
    obtain ⟨a, vs, e, h1, h2⟩ := h
    exact ⟨a, vs, e, h1, RVs.snoc h2⟩
  | .frz xs, v, h => by
    simp only [RV] at h ⊢
    obtain ⟨a, vs, e, h1, h2⟩ := h
    exact ⟨a, vs, e, h1, RVs.snoc h2⟩
  | .ref kk i, v, h => by
    simp only [RV] at h ⊢
    have hl := (List.getElem?_eq_some_iff.mp h.1).1
    refine ⟨?_, by rw [Mp.snoc_lt hl]; exact h.2⟩
    show (M.ks ++ [k])[i]? = _
    rw [List.getElem?_append_left hl]; exact h.1
  | .tmp _, _, h => by simp [RV] at h
  | .tmd _ _, _, h => by simp [RV] at h
  | .glo _, _, h => by simpa [RV] using h
theorem RVs.snoc {Y : Ctx} {H : Hp} {M : Mp} {a : Addr} {k : Kind} : ∀ {xs : List PV} {vs : List V}, RVs Y H M xs vs → RVs Y H (M.snoc a k) xs vs
  | [], _, h => by simpa [RVs] using h
  | x :: xs, vs, h => by
    simp only [RVs] at h ⊢
    obtain ⟨v, vr, e, h1, h2⟩ := h
    exact ⟨v, vr, e, RV.snoc h1, RVs.snoc h2⟩
end
theorem RFs.snoc {Y : Ctx} {H : Hp} {M : Mp} {a : Addr} {k : Kind} : ∀ {xs : List (Str × PV)} {vs : List (Str × V)}, RFs Y H M xs vs → RFs Y H (M.snoc a k) xs vs
  | [], _, h => h
  | p :: ps, vs, h => by
    obtain ⟨v, r, e, h1, h2⟩ := h
    exact ⟨v, r, e, RV.snoc h1, RFs.snoc h2⟩
theorem RC.snoc {Y : Ctx} {H : Hp} {M : Mp} {a b : Addr} {k : Kind} : ∀ {c : Cell}, RC Y H M c b → RC Y H (M.snoc a k) c b
  | .lst _, h => by obtain ⟨vs, e1, h1⟩ := h; exact ⟨vs, e1, RVs.snoc h1⟩
  | .dic _ _, h => by obtain ⟨vs, e1, h1, h2⟩ := h; exact ⟨vs, e1, h1, RVs.snoc h2⟩
  | .ins _ _, h => by obtain ⟨C, dx, vs, e0, e1, h1⟩ := h; exact ⟨C, dx, vs, e0, e1, RFs.snoc h1⟩
  | .lck _ _, h => by obtain ⟨o, vs, e1, h1, h2⟩ := h; exact ⟨o, vs, e1, h1, RVs.snoc h2⟩
theorem RS.snoc {Y : Ctx} {H : Hp} {M : Mp} {S : Store} (rs : RS Y H M S) {a : Addr} {c : Cell} (hc : RC Y H M c a) (hn : ∀ i, i < M.ks.length → M.f i ≠ a) : RS Y H (M.snoc a c.kind) (S ++ [c]) where
  ks := by simp [Mp.snoc, rs.ks]
  cell := fun i d h => by
    by_cases hi : i < S.length
    · rw [List.getElem?_append_left hi] at h
      have hd := rs.cell i d h
      have e : (M.snoc a c.kind).f i = M.f i := Mp.snoc_lt (by rw [rs.len]; exact hi)
      rw [e]
      exact hd.snoc
    · rw [List.getElem?_append_right (by omega)] at h
      have hz : i = S.length := by
        by_cases e : i - S.length = 0
        · omega
        · have : ([c] : List Cell)[i - S.length]? = none := by apply List.getElem?_eq_none; simp; omega
          rw [this] at h; cases h
      subst hz
      simp at h; subst h
      rw [← rs.len, Mp.snoc_eq]
      exact hc.snoc
  inj := fun i j hi hj e => by
    have hl : (M.snoc a c.kind).ks.length = M.ks.length + 1 := by simp [Mp.snoc]
    by_cases h1 : i < M.ks.length
    · by_cases h2 : j < M.ks.length
      · rw [Mp.snoc_lt h1, Mp.snoc_lt h2] at e
        exact rs.inj i j h1 h2 e
      · have : j = M.ks.length := by omega
        subst this
        rw [Mp.snoc_lt h1, Mp.snoc_eq] at e
        exact absurd e (hn i h1)
    · have : i = M.ks.length := by omega
      subst this
      by_cases h2 : j < M.ks.length
      · rw [Mp.snoc_lt h2, Mp.snoc_eq] at e
        exact absurd e.symm (hn j h2)
      · omega
  tabs := rs.tabs
/-- what bnd hands on -/
theorem Out.bnd {Y : Ctx} {W : WX} {σ : L2.St} {H0 H : Hp} {M0 M : Mp} {S : Store} {x : PV} {v : V} {Q : PV → V → Hp → Mp → Store → Prop} (n : Nxt H0 M0 H M) (rs : RS Y H M S) (rx : RX Y H M x v) (fr : Fr H0 x v)
    (h : ∀ y S' M', bnd x S = .ok y S' → Nxt H0 M0 H M' → RS Y H M' S' → RV Y H M' y v → Q y v H M' S') : ∃ y S' M', Z.bnd x S = .ok y S' ∧ Nxt H0 M0 H M' ∧ RS Y H M' S' ∧ RV Y H M' y v ∧ Q y v H M' S' := by
  cases x with
  | tmp xs =>
    obtain ⟨a, vs, e, h1, h2, h3⟩ := rx
    subst e
    have n' := n.snoc (k := .lst) (fr a rfl)
    have rs' := rs.snoc (c := .lst xs) ⟨vs, h1, h3⟩ h2
    have rv : RV Y H (M.snoc a .lst) (.ref .lst S.length) (.ref a) := by
      simp only [RV]
      refine ⟨?_, by rw [← rs.len, Mp.snoc_eq]⟩
      show (M.ks ++ [Kind.lst])[S.length]? = _
      rw [← rs.len]; simp
    exact ⟨_, _, _, rfl, n', rs', rv, h _ _ _ rfl n' rs' rv⟩
  | tmd ks xs =>
    obtain ⟨a, vs, e, h1, h2, h3, h4⟩ := rx
    subst e
    have n' := n.snoc (k := .dic) (fr a rfl)
    have rs' := rs.snoc (c := .dic ks xs) ⟨vs, h1, h3, h4⟩ h2
    have rv : RV Y H (M.snoc a .dic) (.ref .dic S.length) (.ref a) := by
      simp only [RV]
      refine ⟨?_, by rw [← rs.len, Mp.snoc_eq]⟩
      show (M.ks ++ [Kind.dic])[S.length]? = _
      rw [← rs.len]; simp
    exact ⟨_, _, _, rfl, n', rs', rv, h _ _ _ rfl n' rs' rv⟩
  | non => exact ⟨_, _, _, rfl, n, rs, rx, h _ _ _ rfl n rs rx⟩
  | bl _ => exact ⟨_, _, _, rfl, n, rs, rx, h _ _ _ rfl n rs rx⟩
  | int _ => exact ⟨_, _, _, rfl, n, rs, rx, h _ _ _ rfl n rs rx⟩
  | str _ => exact ⟨_, _, _, rfl, n, rs, rx, h _ _ _ rfl n rs rx⟩
  | tup _ => exact ⟨_, _, _, rfl, n, rs, rx, h _ _ _ rfl n rs rx⟩
  | frz _ => exact ⟨_, _, _, rfl, n, rs, rx, h _ _ _ rfl n rs rx⟩
  | ref _ _ => exact ⟨_, _, _, rfl, n, rs, rx, h _ _ _ rfl n rs rx⟩
  | glo _ => exact ⟨_, _, _, rfl, n, rs, rx, h _ _ _ rfl n rs rx⟩
/-- .. in short -/
theorem bnd_ok {Y : Ctx} {H0 H : Hp} {M0 M : Mp} {S : Store} {x : PV} {v : V} (n : Nxt H0 M0 H M) (rs : RS Y H M S) (rx : RX Y H M x v) (fr : Fr H0 x v) :
    ∃ y S' M', bnd x S = .ok y S' ∧ Nxt H0 M0 H M' ∧ RS Y H M' S' ∧ RV Y H M' y v := by
  obtain ⟨y, S', M', h1, h2, h3, h4, _⟩ := Out.bnd (W := fun _ _ _ _ => False) (σ := []) (Q := fun _ _ _ _ _ => True) n rs rx fr fun _ _ _ _ _ _ _ => True.intro
  exact ⟨y, S', M', h1, h2, h3, h4⟩

/-! ### argument lists -/
def dNil : DA := fun _ S => .ok [] S
def dCons (d : DE) (r : DA) : DA := fun ρ S => (d ρ S).bind fun x S1 => (bnd x S1).bind fun y S2 => (r ρ S2).bind fun ys S3 => .ok (y :: ys) S3
section
variable {X : Cx} {T : List (Addr × Str)} {W : WX}
theorem za_nil : ZA X T W [] dNil := pa_nil.imp fun σ H Q ⟨M, ρ, S, rs, re, h⟩ => h M H [] Nxt.refl rs RVs.nil
theorem za_cons {e : Expr} {es : List Expr} {d : DE} {r : DA} (he : ZE X T W e d) (hr : ZA X T W es r) (hs : starEach (e :: es) X.env = (false, eval e X.env) :: starEach es X.env := by rfl) : ZA X T W (e :: es) (dCons d r) :=
  (pa_cons he hr hs).imp fun σ H Q ⟨M, ρ, S, rs, re, h⟩ => by
    refine ⟨M, ρ, S, rs, re, ?_⟩
    have h : OutA (yOf X T) W σ H M ((d ρ S).bind fun x S1 => (bnd x S1).bind fun y S2 => (r ρ S2).bind fun ys S3 => .ok (y :: ys) S3) Q := h
    revert h
    cases d ρ S with
    | bad => exact fun h => h
    | err c o S1 => exact fun h => h
    | ok x S1 =>
      intro h M' H' v n rs' rx fr
      obtain ⟨y, S2, M2, eb, n2, rs2, ry⟩ := bnd_ok n rs' rx fr
      have h2 : OutA (yOf X T) W σ H M ((bnd x S1).bind fun y S2 => (r ρ S2).bind fun ys S3 => .ok (y :: ys) S3) Q := h
      rw [eb] at h2
      refine stepA gOutA rs2 (re.nxt n2) (h2.pull n2) fun M3 S3 ys vs H3 n3 rs3 re3 rys e3 h3 => ?_
      exact h3 M3 H3 _ Nxt.refl rs3 (RVs.cons (ry.nxt n3) rys)
end
end Z

set_option Elab.async false
set_option linter.all false
set_option maxRecDepth 100000
set_option maxHeartbeats 2000000
/-! # ZC: operators -/
namespace Z
open PySem PySem.Spec PyProof.Rows L2

def ofO {α : Type} (o : Option α) (S : Store) : Res α := match o with | some x => .ok x S | none => .bad
@[simp] theorem ofO_some {α : Type} (x : α) (S : Store) : ofO (some x) S = .ok x S := rfl
@[simp] theorem ofO_none {α : Type} (S : Store) : (ofO none S : Res α) = .bad := rfl
abbrev W0 : WX := fun _ _ _ _ => False
abbrev O2 := PV → PV → Store → Option PV
abbrev O1 := PV → Store → Option PV
/-- a value, at the same store -/
def OutV (Y : Ctx) (H : Hp) (M : Mp) (S : Store) (z : PV) (Q : VK) : Prop := ∀ M' H' v, Nxt H M H' M' → RS Y H' M' S → RX Y H' M' z v → Fr H z v → Q v H'
def rOf (Y : Ctx) (g : O2) : R2 := fun x y H Q => ∃ M S a b z, RS Y H M S ∧ RX Y H M a x ∧ RX Y H M b y ∧ g a b S = some z ∧ OutV Y H M S z Q
def rOf1 (Y : Ctx) (g : O1) : V → Hp → VK → Prop := fun x H Q => ∃ M S a z, RS Y H M S ∧ RX Y H M a x ∧ g a S = some z ∧ OutV Y H M S z Q
section
variable {Y : Ctx} {H H1 : Hp} {M : Mp} {S : Store}
theorem OutV.val {x : PV} {v : V} {Q : VK} (h : OutV Y H M S x Q) (rs : RS Y H M S) (rx : RV Y H M x v) : Q v H := h M H v Nxt.refl rs (RX.of rx) (Fr.of rx)
theorem OutV.same {x : PV} {v : V} {Q : VK} (h : OutV Y H M S x Q) (rs : RS Y H M S) (s : Same H H1) (rx : RV Y H1 M x v) : Q v H1 := h M H1 v (Nxt.same s) (rs.same s) (RX.of rx) (Fr.of rx)
theorem OutV.newTup {xs : List PV} {vs : List V} {Q : VK} (h : OutV Y H M S (.tup xs) Q) (rs : RS Y H M S) (rx : RVs Y H M xs vs) : NewD H vs Q := fun p o hp hd =>
  h.same rs (same_upd hp) (by simp only [RV]; exact ⟨p, vs, rfl, ⟨o, upd_same, hd⟩, rx.nxt (Nxt.same (same_upd hp))⟩)
theorem OutV.newTmp {xs : List PV} {vs : List V} {Q : VK} (h : OutV Y H M S (.tmp xs) Q) (rs : RS Y H M S) (rx : RVs Y H M xs vs) {p : Addr} (hp : H p = none) : Q (.ref p) (upd H p (.lst vs)) :=
  h M _ _ (Nxt.same (same_upd hp)) (rs.same (same_upd hp)) ⟨p, vs, rfl, upd_same, fun i hi => rs.ne hi hp, rx.nxt (Nxt.same (same_upd hp))⟩ fun a e => by cases e; exact hp
theorem OutV.int {i : Int} {Q : VK} (h : OutV Y H M S (.int i) Q) (rs : RS Y H M S) : Q (.int i) H := h.val rs (by simp [RV])
theorem OutV.bl {b : Bool} {Q : VK} (h : OutV Y H M S (.bl b) Q) (rs : RS Y H M S) : Q (.bl b) H := h.val rs (by simp [RV])
theorem OutV.str {s : Str} {Q : VK} (h : OutV Y H M S (.str s) Q) (rs : RS Y H M S) : Q (.str s) H := h.val rs (by simp [RV])
theorem OutV.non {Q : VK} (h : OutV Y H M S .non Q) (rs : RS Y H M S) : Q .non H := h.val rs (by simp [RV])
theorem rx_int {i : Int} {v : V} (h : RX Y H M (.int i) v) : v = .int i := by simpa [RX, RV] using h
theorem rx_bl {i : Bool} {v : V} (h : RX Y H M (.bl i) v) : v = .bl i := by simpa [RX, RV] using h
theorem rx_str {i : Str} {v : V} (h : RX Y H M (.str i) v) : v = .str i := by simpa [RX, RV] using h
theorem rx_non {v : V} (h : RX Y H M .non v) : v = .non := by simpa [RX, RV] using h
theorem rx_tup {xs : List PV} {v : V} (h : RX Y H M (.tup xs) v) : ∃ a vs, v = .ref a ∧ SqD H a vs ∧ RVs Y H M xs vs := by
  have h' : RV Y H M (.tup xs) v := h
  simpa only [RV] using h'

/-- the items of a list -/
def lstOf (x : PV) (S : Store) : Option (List PV) := match x with
  | .tmp xs => some xs
  | .frz xs => some xs
  | .ref .lst n => match S[n]? with | some (.lst xs) => some xs | _ => none
  | _ => none
/-- the items of a list or a tuple -/
def seqOf (x : PV) (S : Store) : Option (List PV) := match x with | .tup xs => some xs | x => lstOf x S
theorem rx_lst (rs : RS Y H M S) {x : PV} {v : V} {xs : List PV} (h : RX Y H M x v) (e : lstOf x S = some xs) : ∃ a vs, v = .ref a ∧ SqL Y.K H a vs ∧ RVs Y H M xs vs := by
  cases x with
  | tmp ys =>
    obtain ⟨a, vs, e1, h1, _, h3⟩ := h
    cases e
    exact ⟨a, vs, e1, SqL.of h1, h3⟩
  | frz ys =>
    have h : RV Y H M (.frz ys) v := h
    simp only [RV] at h
    obtain ⟨a, vs, e1, h1, h3⟩ := h
    cases e
    exact ⟨a, vs, e1, h1.sql, h3⟩
  | ref k n =>
    have h : RV Y H M (.ref k n) v := h
    simp only [RV] at h
    cases k with
    | lst =>
      simp only [lstOf] at e
      split at e
      · rename_i ys hn
        cases e
        obtain ⟨vs, h1, h2⟩ := rs.cell n _ hn
        exact ⟨_, vs, h.2, SqL.of h1, h2⟩
      · cases e
    | _ => simp [lstOf] at e
  | _ => simp [lstOf] at e
theorem rx_seq (rs : RS Y H M S) {x : PV} {v : V} {xs : List PV} (h : RX Y H M x v) (e : seqOf x S = some xs) : ∃ a vs, v = .ref a ∧ (SqL Y.K H a vs ∨ SqT Y.K H a vs) ∧ RVs Y H M xs vs := by
  cases x with
  | tup ys =>
    obtain ⟨a, vs, e1, h1, h2⟩ := rx_tup h
    cases e
    exact ⟨a, vs, e1, .inr h1.sqt, h2⟩
  | _ =>
    obtain ⟨a, vs, e1, h1, h2⟩ := rx_lst rs h e
    exact ⟨a, vs, e1, .inl h1, h2⟩
/-- a list that may be changed: it lies in the store -/
theorem rx_cell (rs : RS Y H M S) {n : Nat} {v : V} {xs : List PV} (h : RX Y H M (.ref .lst n) v) (e : S[n]? = some (.lst xs)) : ∃ vs, v = .ref (M.f n) ∧ H (M.f n) = some (.lst vs) ∧ RVs Y H M xs vs ∧ n < M.ks.length ∧ M.ks[n]? = some .lst := by
  have h : RV Y H M (.ref .lst n) v := h
  simp only [RV] at h
  obtain ⟨vs, h1, h2⟩ := rs.cell n _ e
  exact ⟨vs, h.2, h1, h2, (List.getElem?_eq_some_iff.mp h.1).1, h.1⟩
end

def dBin (g : O2) (da db : DE) : DE := fun ρ S => (da ρ S).bind fun x S1 => (db ρ S1).bind fun y S2 => ofO (g x y S2) S2
def dUn (g : O1) (da : DE) : DE := fun ρ S => (da ρ S).bind fun x S1 => ofO (g x S1) S1
section
variable {X : Cx} {T : List (Addr × Str)} {W : WX} {a b : Expr} {da db : DE} {pos : Pos} {g : O2}
/-- two evaluations in a row and an operation on their values -/
theorem two {op : Value → Value → Sem Value} (ho : OpR X op (rOf (yOf X T) g)) {σ : L2.St} {H : Hp} {Q : VK} (h : tOf (yOf X T) W (dBin g da db) σ H Q) : tOp (rOf (yOf X T) g) (tOf (yOf X T) W da) (tOf (yOf X T) W db) σ H Q := by
  obtain ⟨M, ρ, S, rs, re, h⟩ := h
  refine step gOut rs re h fun M1 S1 x v H1 n1 rs1 re1 rx1 fr1 _ h1 => ?_
  refine step gOut rs1 re1 h1 fun M2 S2 y u H2 n2 rs2 re2 rx2 fr2 _ h2 => ?_
  cases e : g x y S2 with
  | none => rw [e] at h2; exact h2.elim
  | some z => rw [e] at h2; exact ⟨M2, S2, x, y, z, rs2, rx1.nxt n2, rx2, e, h2⟩
theorem ze_bin {op : Operator} (ho : OpR X (binaryOp op) (rOf (yOf X T) g)) (ha : ZE X T W a da) (hb : ZE X T W b db) : ZE X T W (.BinOp a op b pos) (dBin g da db) :=
  (pe_op ho ha hb).imp fun σ H Q h => two ho h
theorem ze_cmp {op : CmpOp} (ho : OpR X (compareOp op) (rOf (yOf X T) g)) (ha : ZE X T W a da) (hb : ZE X T W b db) (hm : behindInMarks op b = false) : ZE X T W (.Compare a [op] [b] pos) (dBin g da db) :=
  (pe_cmpR ho ha hb hm).imp fun σ H Q h => two ho h
theorem ze_un {op : UnaryOp} {g : O1} (ho : UnR X (unaryOp op) (rOf1 (yOf X T) g)) (ha : ZE X T W a da) : ZE X T W (.UnaryOp op a pos) (dUn g da) :=
  (pe_un ho ha).imp fun σ H Q ⟨M, ρ, S, rs, re, h⟩ => by
    refine step gOut rs re h fun M1 S1 x v H1 n1 rs1 re1 rx1 fr1 _ h1 => ?_
    cases e : g x S1 with
    | none => rw [e] at h1; exact h1.elim
    | some z => rw [e] at h1; exact ⟨M1, S1, x, z, rs1, rx1, e, h1⟩

/-! ### + -/
def oAdd : O2 := fun x y S => match x, y with
  | .int i, .int j => some (.int (i + j))
  | .bl b, .int j => some (.int ((if b = true then 1 else 0) + j))
  | .str a, .str b => if a.length + b.length ≤ 16777216 then some (.str (a ++ b)) else none
  | .tup xs, .tup ys => if xs.length + ys.length ≤ 16777216 then some (.tup (xs ++ ys)) else none
  | x, y => match lstOf x S, lstOf y S with
    | some xs, some ys => if xs.length + ys.length ≤ 16777216 then some (.tmp (xs ++ ys)) else none
    | _, _ => none
def rCatS (K : PySem.W.Frag) : R2 := fun x y H Q => ∃ l b xs zs, x = .ref l ∧ y = .ref b ∧ SqL K H l xs ∧ SqL K H b zs ∧ xs.length + zs.length ≤ sizeLine ∧ ∀ p, H p = none → Q (.ref p) (upd H p (.lst (xs ++ zs)))
theorem op_catS : OpR X (binaryOp .Add) (rCatS X.K) := by
  intro pins s σ H x y v u Q I rx ry h
  obtain ⟨l, b, xs, zs, rfl, rfl, hH, hB, hz, q⟩ := h
  cases rx
  cases ry
  obtain ⟨its, r, p1, z1⟩ := I.list hH
  obtain ⟨its2, r2, p2, z2⟩ := I.list hB
  obtain ⟨⟨cls, dd, data, sl⟩, ho, hc, n, hd⟩ := id p1.isList
  obtain ⟨⟨cls2, dd2, data2, sl2⟩, ho2, hc2, n2, hd2⟩ := id p2.isList
  simp only at hc hd hc2 hd2
  subst hc hd hc2 hd2
  have l1 := r.length
  have l2 := r2.length
  refine concat_meets ⟨_, ho, rfl⟩ ⟨_, ho2, rfl⟩ noFill_list_add seq_list_add PySem.F.slot_list_add PySem.F.entry_list_add (PySem.F.args_list_add_2 _ _) (PyProof.Rows.list_addW l b its.toArray its2.toArray n n2 dd dd2 sl sl2 (by rw [List.size_toArray, List.size_toArray]; omega)) ⟨ho, ho2, ?_⟩
  have ea : its.toArray ++ its2.toArray = (its ++ its2).toArray := by simp
  rw [ea]
  exact ⟨.ref _, _, I.lnew (t' := s.toks) (r.append r2) (by rw [List.length_append]; omega), rfl, q _ I.fresh⟩
theorem lineS : (sizeLine : Nat) = 16777216 := sizeLine_eq
theorem oz_add : OpR X (binaryOp .Add) (rOf (yOf X T) oAdd) := by
  intro pins s σ H x y v u Q I rx ry ⟨M, S, a, b, z, rs, ra, rb, e, q⟩
  have hs := lineS
  unfold oAdd at e
  split at e
  · cases e
    cases rx_int ra; cases rx_int rb
    exact op_add pins s σ H _ _ v u Q I rx ry ⟨_, _, rfl, rfl, q.int rs⟩
  · cases e
    cases rx_bl ra; cases rx_int rb
    obtain ⟨t, rfl⟩ := ry
    cases rx
    exact PySem.IntBool.add_bool_int ⟨.int _, H, I.tok _, ⟨_, rfl⟩, q.int rs⟩
  · split at e
    · cases e
      cases rx_str ra; cases rx_str rb
      exact op_add_str pins s σ H _ _ v u Q I rx ry ⟨_, _, rfl, rfl, by omega, q.str rs⟩
    · cases e
  · split at e
    · rename_i xs ys hl
      cases e
      obtain ⟨a1, vs, rfl, h1, h2⟩ := rx_tup ra
      obtain ⟨b1, ws, rfl, h3, h4⟩ := rx_tup rb
      have l1 := h2.length
      have l2 := h4.length
      have nil_of : ∀ {xs : List PV} {vs : List V}, RVs (yOf X T) H M xs vs → vs = [] → xs = [] := fun h e => by
        have := h.length; rw [e] at this; exact List.length_eq_zero_iff.mp this.symm
      refine op_catD pins s σ H _ _ v u Q I rx ry ⟨a1, b1, vs, ws, rfl, rfl, h1.sqt, h3.sqt, by omega, fun e => ?_, fun _ e => ?_, fun _ _ => q.newTup rs (h2.append h4)⟩
      · rw [nil_of h2 e, List.nil_append] at q
        exact q.val rs (by simp only [RV]; exact ⟨b1, ws, rfl, h3, h4⟩)
      · rw [nil_of h4 e, List.append_nil] at q
        exact q.val rs (by simp only [RV]; exact ⟨a1, vs, rfl, h1, h2⟩)
    · cases e
  · split at e
    · rename_i xs ys e1 e2
      split at e
      · cases e
        obtain ⟨a1, vs, rfl, h1, h2⟩ := rx_lst rs ra e1
        obtain ⟨b1, ws, rfl, h3, h4⟩ := rx_lst rs rb e2
        have l1 := h2.length
        have l2 := h4.length
        exact op_catS pins s σ H _ _ v u Q I rx ry ⟨a1, b1, vs, ws, rfl, rfl, h1, h3, by omega, fun p hp => q.newTmp rs (h2.append h4) hp⟩
      · cases e
    · cases e
/-! ### - // % ** unary minus -/
def oSub : O2 := fun x y _ => match x, y with | .int i, .int j => some (.int (i - j)) | .bl b, .int j => some (.int ((if b = true then 1 else 0) - j)) | _, _ => none
theorem oz_sub : OpR X (binaryOp .Sub) (rOf (yOf X T) oSub) := by
  intro pins s σ H x y v u Q I rx ry ⟨M, S, a, b, z, rs, ra, rb, e, q⟩
  unfold oSub at e
  split at e
  · cases e
    cases rx_int ra; cases rx_int rb
    exact op_sub pins s σ H _ _ v u Q I rx ry ⟨_, _, rfl, rfl, q.int rs⟩
  · cases e
    cases rx_bl ra; cases rx_int rb
    obtain ⟨t, rfl⟩ := ry
    cases rx
    exact PySem.IntBool.sub_bool_int ⟨.int _, H, I.tok _, ⟨_, rfl⟩, q.int rs⟩
  · cases e
/-- // by a positive number below 2^30 -/
def oFdiv : O2 := fun x y _ => match x, y with | .int i, .int j => if 0 < j ∧ j < 1073741824 then some (.int (i / j)) else none | _, _ => none
theorem oz_fdiv : OpR X (binaryOp .FloorDiv) (rOf (yOf X T) oFdiv) := by
  intro pins s σ H x y v u Q I rx ry ⟨M, S, a, b, z, rs, ra, rb, e, q⟩
  unfold oFdiv at e
  split at e
  · split at e
    · rename_i hc
      cases e
      cases rx_int ra; cases rx_int rb
      exact op_fdiv pins s σ H _ _ v u Q I rx ry ⟨_, _, rfl, rfl, hc, q.int rs⟩
    · cases e
  · cases e
def oMod : O2 := fun x y _ => match x, y with | .int i, .int j => if 0 < j then some (.int (i % j)) else none | _, _ => none
theorem oz_mod : OpR X (binaryOp .Mod) (rOf (yOf X T) oMod) := by
  intro pins s σ H x y v u Q I rx ry ⟨M, S, a, b, z, rs, ra, rb, e, q⟩
  unfold oMod at e
  split at e
  · split at e
    · rename_i hc
      cases e
      cases rx_int ra; cases rx_int rb
      exact op_mod pins s σ H _ _ v u Q I rx ry ⟨_, _, rfl, rfl, hc, q.int rs⟩
    · cases e
  · cases e
def oPow : O2 := fun x y _ => match x, y with | .int i, .int j => if 0 ≤ j ∧ j ≤ 1000000 ∧ i.natAbs < 2 ^ 64 then some (.int (i ^ j.toNat)) else none | _, _ => none
theorem oz_pow : OpR X (binaryOp .Pow) (rOf (yOf X T) oPow) := by
  intro pins s σ H x y v u Q I rx ry ⟨M, S, a, b, z, rs, ra, rb, e, q⟩
  unfold oPow at e
  split at e
  · split at e
    · rename_i hc
      cases e
      cases rx_int ra; cases rx_int rb
      exact op_pow pins s σ H _ _ v u Q I rx ry ⟨_, _, rfl, rfl, hc, q.int rs⟩
    · cases e
  · cases e
def oNeg : O1 := fun x _ => match x with | .int i => some (.int (-i)) | _ => none
theorem oz_neg : UnR X (unaryOp .USub) (rOf1 (yOf X T) oNeg) := by
  intro pins s σ H x v Q I rx ⟨M, S, a, z, rs, ra, e, q⟩
  unfold oNeg at e
  split at e
  · cases e
    cases rx_int ra
    exact un_neg pins s σ H _ v Q I rx ⟨_, rfl, q.int rs⟩
  · cases e
/-! ### order -/
def cmpI (p : Int → Int → Bool) (s : List Nat → List Nat → Bool) : O2 := fun x y _ => match x, y with
  | .int i, .int j => some (.bl (p i j))
  | .str a, .str b => some (.bl (s a.cps.toList b.cps.toList))
  | _, _ => none
def oLt : O2 := cmpI (fun i j => decide (i < j)) (fun a b => decide (a < b))
def oLe : O2 := cmpI (fun i j => decide (i ≤ j)) (fun a b => !decide (b < a))
def oGt : O2 := cmpI (fun i j => decide (j < i)) (fun a b => decide (b < a))
def oGe : O2 := cmpI (fun i j => decide (j ≤ i)) (fun a b => !decide (a < b))
theorem oz_lt : OpR X (compareOp .Lt) (rOf (yOf X T) oLt) := by
  intro pins s σ H x y v u Q I rx ry ⟨M, S, a, b, z, rs, ra, rb, e, q⟩
  unfold oLt cmpI at e
  split at e
  · cases e
    cases rx_int ra; cases rx_int rb
    exact op_lt pins s σ H _ _ v u Q I rx ry ⟨_, _, rfl, rfl, q.bl rs⟩
  · cases e
    cases rx_str ra; cases rx_str rb
    exact op_lt_str pins s σ H _ _ v u Q I rx ry ⟨_, _, rfl, rfl, q.bl rs⟩
  · cases e
theorem oz_le : OpR X (compareOp .LtE) (rOf (yOf X T) oLe) := by
  intro pins s σ H x y v u Q I rx ry ⟨M, S, a, b, z, rs, ra, rb, e, q⟩
  unfold oLe cmpI at e
  split at e
  · cases e
    cases rx_int ra; cases rx_int rb
    exact op_le pins s σ H _ _ v u Q I rx ry ⟨_, _, rfl, rfl, q.bl rs⟩
  · cases e
    cases rx_str ra; cases rx_str rb
    exact op_le_str pins s σ H _ _ v u Q I rx ry ⟨_, _, rfl, rfl, q.bl rs⟩
  · cases e
theorem oz_gt : OpR X (compareOp .Gt) (rOf (yOf X T) oGt) := by
  intro pins s σ H x y v u Q I rx ry ⟨M, S, a, b, z, rs, ra, rb, e, q⟩
  unfold oGt cmpI at e
  split at e
  · cases e
    cases rx_int ra; cases rx_int rb
    exact op_gt pins s σ H _ _ v u Q I rx ry ⟨_, _, rfl, rfl, q.bl rs⟩
  · cases e
    cases rx_str ra; cases rx_str rb
    exact op_gt_str pins s σ H _ _ v u Q I rx ry ⟨_, _, rfl, rfl, q.bl rs⟩
  · cases e
theorem oz_ge : OpR X (compareOp .GtE) (rOf (yOf X T) oGe) := by
  intro pins s σ H x y v u Q I rx ry ⟨M, S, a, b, z, rs, ra, rb, e, q⟩
  unfold oGe cmpI at e
  split at e
  · cases e
    cases rx_int ra; cases rx_int rb
    exact op_ge pins s σ H _ _ v u Q I rx ry ⟨_, _, rfl, rfl, q.bl rs⟩
  · cases e
    cases rx_str ra; cases rx_str rb
    exact op_ge_str pins s σ H _ _ v u Q I rx ry ⟨_, _, rfl, rfl, q.bl rs⟩
  · cases e
end
end Z

set_option Elab.async false
set_option linter.all false
set_option maxRecDepth 100000
set_option maxHeartbeats 2000000
/-! # ZD: ==, in, tests, and/or/not, isinstance, len -/
namespace Z
open PySem PySem.Spec PyProof.Rows L2

/-! ### data of values -/
mutual
def datB (g : Nat → Option PyData) : PV → Option PyData
  | .non => some .none
  | .bl b => some (.bool b)
  | .int i => some (.int i)
  | .str s => some (.str s)
  | .tup xs => (datsB g xs).map .tuple
  | .frz xs => (datsB g xs).map .list
  | .tmp xs => (datsB g xs).map .list
  | .ref .lst n => g n
  | .ref .dic _ => none
  | .ref .ins _ => none
  | .tmd _ _ => none
  | .glo _ => none
def datsB (g : Nat → Option PyData) : List PV → Option (List PyData)
  | [] => some []
  | x :: xs => (datB g x).bind fun d => (datsB g xs).map fun ds => d :: ds
end
def cellD (S : Store) : Nat → Nat → Option PyData
  | 0, _ => none
  | k + 1, n => match S[n]? with | some (.lst xs) => (datsB (cellD S k) xs).map .list | _ => none
def dat (S : Store) (x : PV) : Option PyData := datB (cellD S 12) x
def dats (S : Store) (xs : List PV) : Option (List PyData) := datsB (cellD S 12) xs
section
variable {Y : Ctx} {H : Hp} {M : Mp} {S : Store}
theorem DpAll.length : ∀ {vs : List V} {ds : List PyData}, DpAll Y.K H vs ds → vs.length = ds.length
  | _, _, .nil => rfl
  | _, _, .cons _ t => by rw [List.length_cons, List.length_cons, DpAll.length t]
mutual
theorem datB_dp {g : Nat → Option PyData} (hg : ∀ n d, M.ks[n]? = some .lst → g n = some d → Dp Y.K H (.ref (M.f n)) d) : ∀ {x : PV} {v : V} {d : PyData}, RV Y H M x v → datB g x = some d → Dp Y.K H v d
  | .non, v, d, h, e => by simp only [RV] at h; subst h; cases e; exact .non
  | .bl b, v, d, h, e => by simp only [RV] at h; subst h; cases e; exact .bl b
  | .int i, v, d, h, e => by simp only [RV] at h; subst h; cases e; exact .int i
  | .str s, v, d, h, e => by simp only [RV] at h; subst h; cases e; exact .str s
  | .tup xs, v, d, h, e => by
    simp only [RV] at h
    obtain ⟨a, vs, rfl, h1, h2⟩ := h
    simp only [datB, Option.map_eq_some_iff] at e
    obtain ⟨ds, e1, rfl⟩ := e
    exact .tup h1.sqt (datsB_dp hg h2 e1)
  | .frz xs, v, d, h, e => by
    simp only [RV] at h
    obtain ⟨a, vs, rfl, h1, h2⟩ := h
    simp only [datB, Option.map_eq_some_iff] at e
    obtain ⟨ds, e1, rfl⟩ := e
    exact .lst h1.sql (datsB_dp hg h2 e1)
  | .tmp xs, v, d, h, e => by simp [RV] at h
  | .tmd _ _, v, d, h, e => by simp [RV] at h
  | .ref .lst n, v, d, h, e => by
    simp only [RV] at h
    obtain ⟨h1, rfl⟩ := h
    exact hg n d h1 e
  | .ref .dic n, v, d, h, e => by simp [datB] at e
  | .ref .ins n, v, d, h, e => by simp [datB] at e
  | .glo _, v, d, h, e => by simp [datB] at e
theorem datsB_dp {g : Nat → Option PyData} (hg : ∀ n d, M.ks[n]? = some .lst → g n = some d → Dp Y.K H (.ref (M.f n)) d) : ∀ {xs : List PV} {vs : List V} {ds : List PyData}, RVs Y H M xs vs → datsB g xs = some ds → DpAll Y.K H vs ds
  | [], vs, ds, h, e => by simp only [RVs] at h; subst h; simp only [datsB] at e; cases e; exact .nil
  | x :: xs, vs, ds, h, e => by
    simp only [RVs] at h
    obtain ⟨v, vr, rfl, h1, h2⟩ := h
    simp only [datsB, Option.bind_eq_some_iff, Option.map_eq_some_iff] at e
    obtain ⟨d, e1, dr, e2, rfl⟩ := e
    exact .cons (datB_dp hg h1 e1) (datsB_dp hg h2 e2)
end
theorem cellD_dp (rs : RS Y H M S) : ∀ (k n : Nat) (d : PyData), M.ks[n]? = some .lst → cellD S k n = some d → Dp Y.K H (.ref (M.f n)) d
  | 0, n, d, _, e => by simp [cellD] at e
  | k + 1, n, d, hk, e => by
    simp only [cellD] at e
    split at e
    · rename_i xs hn
      simp only [Option.map_eq_some_iff] at e
      obtain ⟨ds, e1, rfl⟩ := e
      obtain ⟨vs, h1, h2⟩ := rs.cell n _ hn
      exact .lst (SqL.of h1) (datsB_dp (fun n d hk e => cellD_dp rs k n d hk e) h2 e1)
    · cases e
theorem dat_dp (rs : RS Y H M S) {x : PV} {v : V} {d : PyData} (h : RX Y H M x v) (e : dat S x = some d) : Dp Y.K H v d := by
  have hg := fun n d hk e => cellD_dp rs 12 n d hk e
  cases x with
  | tmp xs =>
    obtain ⟨a, vs, rfl, h1, _, h3⟩ := h
    simp only [dat, datB, Option.map_eq_some_iff] at e
    obtain ⟨ds, e1, rfl⟩ := e
    exact .lst (SqL.of h1) (datsB_dp hg h3 e1)
  | tmd ks xs => simp [dat, datB] at e
  | _ => exact datB_dp hg h e
end
/-! ### what is read is plain data -/
mutual
theorem datB_plain {g : Nat → Option PyData} (hg : ∀ n d, g n = some d → d.plain = true) : ∀ {x : PV} {d : PyData}, datB g x = some d → d.plain = true
  | .non, d, e => by cases e; rfl
  | .bl b, d, e => by cases e; rfl
  | .int i, d, e => by cases e; rfl
  | .str s, d, e => by cases e; rfl
  | .tup xs, d, e => by
    simp only [datB, Option.map_eq_some_iff] at e
    obtain ⟨ds, e1, rfl⟩ := e
    simpa [PyData.plain] using datsB_plain hg e1
  | .frz xs, d, e => by
    simp only [datB, Option.map_eq_some_iff] at e
    obtain ⟨ds, e1, rfl⟩ := e
    simpa [PyData.plain] using datsB_plain hg e1
  | .tmp xs, d, e => by
    simp only [datB, Option.map_eq_some_iff] at e
    obtain ⟨ds, e1, rfl⟩ := e
    simpa [PyData.plain] using datsB_plain hg e1
  | .tmd _ _, d, e => by simp [datB] at e
  | .ref .lst n, d, e => hg n d e
  | .ref .dic n, d, e => by simp [datB] at e
  | .ref .ins n, d, e => by simp [datB] at e
  | .glo _, d, e => by simp [datB] at e
theorem datsB_plain {g : Nat → Option PyData} (hg : ∀ n d, g n = some d → d.plain = true) : ∀ {xs : List PV} {ds : List PyData}, datsB g xs = some ds → PyData.plainAll ds = true
  | [], ds, e => by simp only [datsB] at e; cases e; rfl
  | x :: xs, ds, e => by
    simp only [datsB, Option.bind_eq_some_iff, Option.map_eq_some_iff] at e
    obtain ⟨d, e1, dr, e2, rfl⟩ := e
    simp only [PyData.plainAll, Bool.and_eq_true]
    exact ⟨datB_plain hg e1, datsB_plain hg e2⟩
end
theorem cellD_plain (S : Store) : ∀ (k n : Nat) (d : PyData), cellD S k n = some d → d.plain = true
  | 0, n, d, e => by simp [cellD] at e
  | k + 1, n, d, e => by
    simp only [cellD] at e
    split at e
    · simp only [Option.map_eq_some_iff] at e
      obtain ⟨ds, e1, rfl⟩ := e
      simpa [PyData.plain] using datsB_plain (fun n d e => cellD_plain S k n d e) e1
    · cases e
theorem dat_plain {S : Store} {x : PV} {d : PyData} (e : dat S x = some d) : d.plain = true := datB_plain (fun n d e => cellD_plain S 12 n d e) e
theorem dats_plain {S : Store} {xs : List PV} {ds : List PyData} (e : dats S xs = some ds) : PyData.plainAll ds = true := datsB_plain (fun n d e => cellD_plain S 12 n d e) e
/-! ### == and != -/
def eqD (S : Store) (x y : PV) : Option Bool := match dat S x, dat S y with
  | some d, some e => if min d.depth e.depth ≤ 64 then some (PyData.eqv d e) else none
  | _, _ => none
def oEq : O2 := fun x y S => (eqD S x y).map .bl
def oNe : O2 := fun x y S => (eqD S x y).map fun b => .bl (!b)
section
variable {X : Cx} {T : List (Addr × Str)} {W : WX} {a b : Expr} {da db : DE} {pos : Pos}
theorem eqD_reads {pins : List (Addr × Obj)} {s : Shared} {σ : L2.St} {H : Hp} {M : Mp} {S : Store} {x y : V} {v u : Value} {a b : PV} {k : Bool} (I : Inv X pins σ H s) (rx : RelV x v) (ry : RelV y u) (rs : RS (yOf X T) H M S)
    (ra : RX (yOf X T) H M a x) (rb : RX (yOf X T) H M b y) (e : eqD S a b = some k) : ∃ d e as bs, Reads s.heap v d as ∧ Reads s.heap u e bs ∧ d.plain = true ∧ e.plain = true ∧ min d.depth e.depth ≤ 64 ∧ k = PyData.eqv d e := by
  unfold eqD at e
  split at e
  · rename_i d d' e1 e2
    split at e
    · rename_i hm
      cases e
      obtain ⟨as, r1⟩ := Dp.reads I d x v (dat_dp rs ra e1) rx
      obtain ⟨bs, r2⟩ := Dp.reads I d' y u (dat_dp rs rb e2) ry
      exact ⟨d, d', as, bs, r1, r2, dat_plain e1, dat_plain e2, hm, rfl⟩
    · cases e
  · cases e
theorem oz_eq (hu : X.A.units + 64 < cLine) : OpR X (compareOp .Eq) (rOf (yOf X T) oEq) := by
  intro pins s σ H x y v u Q I rx ry ⟨M, S, a, b, z, rs, ra, rb, e, q⟩
  simp only [oEq, Option.map_eq_some_iff] at e
  obtain ⟨k, e, rfl⟩ := e
  obtain ⟨d, d', as, bs, r1, r2, p1, p2, hm, rfl⟩ := eqD_reads I rx ry rs ra rb e
  exact SeqAt.eq_plain r1 r2 p1 p2 (by omega) ⟨.bl _, H, I, rfl, q.bl rs⟩
theorem oz_ne (hu : X.A.units + 64 < cLine) : OpR X (compareOp .NotEq) (rOf (yOf X T) oNe) := by
  intro pins s σ H x y v u Q I rx ry ⟨M, S, a, b, z, rs, ra, rb, e, q⟩
  simp only [oNe, Option.map_eq_some_iff] at e
  obtain ⟨k, e, rfl⟩ := e
  obtain ⟨d, d', as, bs, r1, r2, p1, p2, hm, rfl⟩ := eqD_reads I rx ry rs ra rb e
  exact SeqAt.ne_plain r1 r2 p1 p2 (by omega) ⟨.bl _, H, I, rfl, q.bl rs⟩
/-- is None, is not None -/
def oIsN : O2 := fun x y _ => match y with | .non => some (.bl (match x with | .non => true | _ => false)) | _ => none
def oNotN : O2 := fun x y _ => match y with | .non => some (.bl (match x with | .non => false | _ => true)) | _ => none
theorem non_iff {Y : Ctx} {H : Hp} {M : Mp} {x : PV} {v : V} (h : RX Y H M x v) : decide (v = .non) = (match x with | .non => true | _ => false) := by
  cases x with
  | non => simp only [RX, RV] at h; subst h; rfl
  | bl _ => simp only [RX, RV] at h; subst h; rfl
  | int _ => simp only [RX, RV] at h; subst h; rfl
  | str _ => simp only [RX, RV] at h; subst h; rfl
  | tup _ => simp only [RX, RV] at h; obtain ⟨a, vs, rfl, _⟩ := h; rfl
  | frz _ => simp only [RX, RV] at h; obtain ⟨a, vs, rfl, _⟩ := h; rfl
  | ref _ _ => simp only [RX, RV] at h; obtain ⟨_, rfl⟩ := h; rfl
  | glo _ => simp only [RX, RV] at h; obtain ⟨a, _, rfl⟩ := h; rfl
  | tmp _ => obtain ⟨a, vs, rfl, _⟩ := h; rfl
  | tmd _ _ => obtain ⟨a, vs, rfl, _⟩ := h; rfl
theorem oz_is : OpR X (compareOp .Is) (rOf (yOf X T) oIsN) := by
  intro pins s σ H x y v u Q I rx ry ⟨M, S, a, b, z, rs, ra, rb, e, q⟩
  unfold oIsN at e
  split at e
  · cases e
    cases rx_non rb
    refine op_isN pins s σ H x _ v u Q I rx ry ⟨rfl, ?_⟩
    rw [non_iff ra]
    have := q.bl rs
    cases a <;> exact this
  · cases e
theorem oz_isnot : OpR X (compareOp .IsNot) (rOf (yOf X T) oNotN) := by
  intro pins s σ H x y v u Q I rx ry ⟨M, S, a, b, z, rs, ra, rb, e, q⟩
  unfold oNotN at e
  split at e
  · cases e
    cases rx_non rb
    refine op_notN pins s σ H x _ v u Q I rx ry ⟨rfl, ?_⟩
    rw [non_iff ra]
    have := q.bl rs
    cases a <;> exact this
  · cases e
/-! ### in, not in -/
theorem one_sign {a : Str} (h : a.cps.size = 1) : a = ⟨#[a.cps.getD 0 0]⟩ := by
  obtain ⟨⟨l⟩⟩ := a
  match l, h with
  | [c], _ => rfl
/-- the items of a list or tuple that are == x, as data -/
def hitsD (S : Store) (x : PV) (xs : List PV) : Option (PyData × List PyData) := match dat S x, dats S xs with
  | some d, some ds => if min (PyData.depthAll ds) d.depth ≤ 64 then some (d, ds) else none
  | _, _ => none
def inD (S : Store) (x y : PV) : Option Bool := match y with
  | .str b => match x with
    | .str a => if a.cps.size = 1 then some (decide (a.cps.getD 0 0 ∈ b.cps.toList)) else none
    | _ => none
  | y => (seqOf y S).bind fun xs => (hitsD S x xs).map fun p => p.2.any fun z => PyData.eqv z p.1
def oIn : O2 := fun x y S => (inD S x y).map .bl
def oNotIn : O2 := fun x y S => (inD S x y).map fun b => .bl (!b)
theorem hits_reads {pins : List (Addr × Obj)} {s : Shared} {σ : L2.St} {H : Hp} {M : Mp} {S : Store} {x : V} {v : Value} {a : PV} {xs : List PV} {vs : List V} {p : PyData × List PyData} (I : Inv X pins σ H s) (rx : RelV x v) (rs : RS (yOf X T) H M S)
    (ra : RX (yOf X T) H M a x) (rxs : RVs (yOf X T) H M xs vs) (e : hitsD S a xs = some p) : ∃ bs, Reads s.heap v p.1 bs ∧ DpAll X.K H vs p.2 ∧ p.1.plain = true ∧ PyData.plainAll p.2 = true ∧ min (PyData.depthAll p.2) p.1.depth ≤ 64 := by
  unfold hitsD at e
  split at e
  · rename_i d ds e1 e2
    split at e
    · rename_i hm
      cases e
      obtain ⟨as, r1⟩ := Dp.reads I d x v (dat_dp rs ra e1) rx
      exact ⟨as, r1, datsB_dp (fun n d hk e => cellD_dp rs 12 n d hk e) rxs e2, dat_plain e1, dats_plain e2, hm⟩
    · cases e
  · cases e
theorem in_any (hu : X.A.units + 65 < cLine) {pins : List (Addr × Obj)} {s : Shared} {σ : L2.St} {H : Hp} {M : Mp} {S : Store} {x y : V} {v u : Value} {a b : PV} {k : Bool} (I : Inv X pins σ H s) (rx : RelV x v) (ry : RelV y u) (rs : RS (yOf X T) H M S)
    (ra : RX (yOf X T) H M a x) (rb : RX (yOf X T) H M b y) (e : inD S a b = some k) {Q : Value → Shared → Prop} {E : Value → Shared → Prop} :
    (Q (.bool k) s → wpAny (model X.prog X.w) X.A (compareOp .In v u) Q E s) ∧ (Q (.bool (!k)) s → wpAny (model X.prog X.w) X.A (compareOp .NotIn v u) Q E s) := by
  unfold inD at e
  split at e
  · split at e
    · split at e
      · rename_i a' h1
        cases e
        cases rx_str ra; cases rx_str rb
        obtain ⟨t, rfl⟩ := rx
        obtain ⟨t', rfl⟩ := ry
        rename_i _ bz _
        have key : ∀ (c : Nat), Value.str a' t = Value.str ⟨#[c]⟩ t → (Q (.bool (decide (c ∈ bz.cps.toList))) s → wpAny (model X.prog X.w) X.A (compareOp .In (.str a' t) (.str bz t')) Q E s) ∧
            (Q (.bool (!decide (c ∈ bz.cps.toList))) s → wpAny (model X.prog X.w) X.A (compareOp .NotIn (.str a' t) (.str bz t')) Q E s) := fun c e => by
          rw [e]
          exact ⟨fun hq => PyProof.Rows.in_str (by rw [PySem.StrLaws.found_one bz c]; exact hq), fun hq => PyProof.Rows.notIn_str (by rw [PySem.StrLaws.found_one bz c]; exact hq)⟩
        exact key _ (congrArg (fun z => Value.str z t) (one_sign h1))
      · cases e
    · cases e
  · simp only [Option.bind_eq_some_iff, Option.map_eq_some_iff] at e
    obtain ⟨xs, e1, p, e2, rfl⟩ := e
    obtain ⟨q, vs, rfl, h1, h2⟩ := rx_seq rs rb e1
    obtain ⟨bs, r1, dp, p1, p2, hm⟩ := hits_reads I rx rs ra h2 e2
    cases ry
    rcases h1 with h1 | h1
    · obtain ⟨cs, r2⟩ := Dp.reads I (.list p.2) (.ref q) (.ref q) (.lst h1 dp) rfl
      exact ⟨fun hq => SeqAt.in_list_data r2 r1 p2 p1 (by omega) hq, fun hq => SeqAt.notIn_list_data r2 r1 p2 p1 (by omega) hq⟩
    · obtain ⟨cs, r2⟩ := Dp.reads I (.tuple p.2) (.ref q) (.ref q) (.tup h1 dp) rfl
      exact ⟨fun hq => SeqAt.in_tuple_data r2 r1 p2 p1 (by omega) hq, fun hq => SeqAt.notIn_tuple_data r2 r1 p2 p1 (by omega) hq⟩
theorem oz_in (hu : X.A.units + 65 < cLine) : OpR X (compareOp .In) (rOf (yOf X T) oIn) := by
  intro pins s σ H x y v u Q I rx ry ⟨M, S, a, b, z, rs, ra, rb, e, q⟩
  simp only [oIn, Option.map_eq_some_iff] at e
  obtain ⟨k, e, rfl⟩ := e
  exact (in_any hu I rx ry rs ra rb e).1 ⟨.bl _, H, I, rfl, q.bl rs⟩
theorem oz_notin (hu : X.A.units + 65 < cLine) : OpR X (compareOp .NotIn) (rOf (yOf X T) oNotIn) := by
  intro pins s σ H x y v u Q I rx ry ⟨M, S, a, b, z, rs, ra, rb, e, q⟩
  simp only [oNotIn, Option.map_eq_some_iff] at e
  obtain ⟨k, e, rfl⟩ := e
  exact (in_any hu I rx ry rs ra rb e).2 ⟨.bl _, H, I, rfl, q.bl rs⟩
end
end Z

set_option Elab.async false
set_option linter.all false
set_option maxRecDepth 100000
set_option maxHeartbeats 2000000
/-! # ZE: tests, and/or/not, displays, built-in calls -/
namespace Z
open PySem PySem.Spec PyProof.Rows L2

section
variable {X : Cx} {T : List (Addr × Str)} {W : WX} {a b c e : Expr} {da db dc d : DE} {ta tb : DT} {pos : Pos} {g : O2}
/-! ### tests -/
def dTst (d : DE) : DT := fun ρ S => (d ρ S).bind fun x S1 => match x with | .bl k => .ok k S1 | _ => .bad
theorem tst_of {t : TE} {σ : L2.St} {H : Hp} {Q : Bool → Hp → Prop} (h : tOfT (yOf X T) W (dTst d) σ H Q) : tOf (yOf X T) W d σ H fun x H' => ∃ k, x = .bl k ∧ Q k H' := by
  obtain ⟨M, ρ, S, rs, re, h⟩ := h
  refine step gOutT rs re h fun M1 S1 x v H1 n1 rs1 re1 rx1 fr1 _ h1 => ?_
  cases x with
  | bl k => exact ⟨k, rx_bl rx1, h1 M1 H1 Nxt.refl rs1⟩
  | _ => exact h1.elim
theorem zt_val (h : ZE X T W e d) (he : ∀ whole, isTrue e X.env whole = (do let v ← whole; standAt e.pos; holding [v] (truthy v)) := by intro _; rfl) : ZT X T W e (dTst d) :=
  (pt_val h he).imp fun σ H Q q => tst_of (t := tOf (yOf X T) W d) q
theorem zt_cmp {op : CmpOp} (ho : OpR X (compareOp op) (rOf (yOf X T) g)) (ha : ZE X T W a da) (hb : ZE X T W b db) (hm : behindInMarks op b = false) : ZT X T W (.Compare a [op] [b] pos) (dTst (dBin g da db)) :=
  (pt_cmpR ho ha hb hm).imp fun σ H Q q => by
    have q' := tst_of (X := X) (T := T) (W := W) (d := dBin g da db) (t := tOf (yOf X T) W (dBin g da db)) q
    obtain ⟨M, ρ, S, rs, re, h⟩ := q
    have := two (W := W) (da := da) (db := db) ho (σ := σ) (H := H) (Q := fun x H' => ∃ k, x = .bl k ∧ Q k H') q'
    exact this
/-- a op1 b op2 c -/
def dChain (g g' : O2) (da db dc : DE) : DE := fun ρ S => (da ρ S).bind fun x S1 => (db ρ S1).bind fun y S2 => match g x y S2 with
  | some (.bl true) => (dc ρ S2).bind fun z S3 => ofO (g' y z S3) S3
  | some (.bl false) => .ok (.bl false) S2
  | _ => .bad
theorem chain_of {g' : O2} {σ : L2.St} {H : Hp} {Q : VK} (h : tOf (yOf X T) W (dChain g g' da db dc) σ H Q) : tChain (rOf (yOf X T) g) (rOf (yOf X T) g') (tOf (yOf X T) W da) (tOf (yOf X T) W db) (tOf (yOf X T) W dc) σ H Q := by
  obtain ⟨M, ρ, S, rs, re, h⟩ := h
  refine step gOut rs re h fun M1 S1 x v H1 n1 rs1 re1 rx1 fr1 _ h1 => ?_
  refine step gOut rs1 re1 h1 fun M2 S2 y u H2 n2 rs2 re2 rx2 fr2 _ h2 => ?_
  revert h2
  cases e : g x y S2 with
  | none => exact fun h => h.elim
  | some z =>
    cases z with
    | bl k =>
      cases k with
      | true =>
        intro h2
        refine ⟨M2, S2, x, y, _, rs2, rx1.nxt n2, rx2, e, fun M3 H3 v3 n3 rs3 rx3 fr3 => ?_⟩
        refine ⟨true, rx_bl rx3, ?_⟩
        rw [if_pos rfl]
        have h3 := h2.pull n3
        refine step gOut rs3 (re2.nxt n3) h3 fun M4 S4 z w H4 n4 rs4 re4 rx4 fr4 _ h4 => ?_
        cases e' : g' y z S4 with
        | none => rw [e'] at h4; exact h4.elim
        | some r => rw [e'] at h4; exact ⟨M4, S4, y, z, r, rs4, (rx2.nxt n3).nxt n4, rx4, e', h4⟩
      | false =>
        intro h2
        refine ⟨M2, S2, x, y, _, rs2, rx1.nxt n2, rx2, e, fun M3 H3 v3 n3 rs3 rx3 fr3 => ?_⟩
        refine ⟨false, rx_bl rx3, ?_⟩
        rw [if_neg Bool.false_ne_true]
        exact (h2.pull n3).val rs3 (by simp [RV])
    | _ => exact fun h => h.elim
theorem ze_chain {op op' : CmpOp} {g' : O2} (ho : OpR X (compareOp op) (rOf (yOf X T) g)) (ho' : OpR X (compareOp op') (rOf (yOf X T) g')) (ha : ZE X T W a da) (hb : ZE X T W b db) (hc : ZE X T W c dc)
    (hm : lastMarks [op, op'] [b, c] = false := by with_unfolding_all rfl) : ZE X T W (.Compare a [op, op'] [b, c] pos) (dChain g g' da db dc) :=
  (pe_chain ho ho' ha hb hc hm).imp fun σ H Q h => chain_of h
theorem zt_chain {op op' : CmpOp} {g' : O2} (ho : OpR X (compareOp op) (rOf (yOf X T) g)) (ho' : OpR X (compareOp op') (rOf (yOf X T) g')) (ha : ZE X T W a da) (hb : ZE X T W b db) (hc : ZE X T W c dc)
    (hm : lastMarks [op, op'] [b, c] = false := by with_unfolding_all rfl) : ZT X T W (.Compare a [op, op'] [b, c] pos) (dTst (dChain g g' da db dc)) :=
  (pt_chain ho ho' ha hb hc hm).imp fun σ H Q h => chain_of (tst_of (t := tOf (yOf X T) W (dChain g g' da db dc)) h)

/-! ### and, or, not -/
def dAndT (ta tb : DT) : DT := fun ρ S => (ta ρ S).bind fun k S1 => if k = true then tb ρ S1 else .ok false S1
def dOrT (ta tb : DT) : DT := fun ρ S => (ta ρ S).bind fun k S1 => if k = true then .ok true S1 else tb ρ S1
def dNotT (ta : DT) : DT := fun ρ S => (ta ρ S).bind fun k S1 => .ok (!k) S1
abbrev ZW (X : Cx) (T : List (Addr × Str)) (W : WX) (e : Expr) (d : DT) : Prop := PW X e (tOfT (yOf X T) W d)
theorem _root_.L2.PW.imp {X : Cx} {e : Expr} {t t' : TT} (h : PW X e t) (i : ∀ σ H Q, t' σ H Q → t σ H Q) : PW X e t' := ⟨fun w pins s σ H Q I q => h.run w pins s σ H Q I (i σ H Q q)⟩
theorem zw_and1 (h : ZT X T W a ta) : ZW X T W (.BoolOp .And [a] pos) ta := pw_and1 h
theorem zw_or1 (h : ZT X T W a ta) : ZW X T W (.BoolOp .Or [a] pos) ta := pw_or1 h
theorem zw_and {rest : List Expr} (h : ZT X T W a ta) (hr : ZW X T W (.BoolOp .And (b :: rest) pos) tb) : ZW X T W (.BoolOp .And (a :: b :: rest) pos) (dAndT ta tb) :=
  (pw_and h hr).imp fun σ H Q ⟨M, ρ, S, rs, re, h⟩ => by
    refine stepT gOutT rs re h fun M1 S1 k H1 n1 rs1 re1 e h1 => ?_
    cases k with
    | true => exact ⟨M1, ρ, S1, rs1, re1, h1⟩
    | false => exact h1 M1 H1 Nxt.refl rs1
theorem zw_or {rest : List Expr} (h : ZT X T W a ta) (hr : ZW X T W (.BoolOp .Or (b :: rest) pos) tb) : ZW X T W (.BoolOp .Or (a :: b :: rest) pos) (dOrT ta tb) :=
  (pw_or h hr).imp fun σ H Q ⟨M, ρ, S, rs, re, h⟩ => by
    refine stepT gOutT rs re h fun M1 S1 k H1 n1 rs1 re1 e h1 => ?_
    cases k with
    | false => exact ⟨M1, ρ, S1, rs1, re1, h1⟩
    | true => exact h1 M1 H1 Nxt.refl rs1
theorem zt_w (h : ZW X T W e ta) : ZT X T W e ta := h.pt
theorem zt_not (h : ZT X T W a ta) : ZT X T W (.UnaryOp .Not a pos) (dNotT ta) :=
  (pt_not h).imp fun σ H Q ⟨M, ρ, S, rs, re, h⟩ => stepT gOutT rs re h fun M1 S1 k H1 n1 rs1 re1 e h1 => h1 M1 H1 Nxt.refl rs1
/-- .. as values -/
def dAnd (da db : DE) : DE := fun ρ S => (da ρ S).bind fun x S1 => match x with | .bl true => db ρ S1 | .bl false => .ok (.bl false) S1 | _ => .bad
def dOr (da db : DE) : DE := fun ρ S => (da ρ S).bind fun x S1 => match x with | .bl false => db ρ S1 | .bl true => .ok (.bl true) S1 | _ => .bad
def dNot (da : DE) : DE := fun ρ S => (da ρ S).bind fun x S1 => match x with | .bl k => .ok (.bl (!k)) S1 | _ => .bad
theorem ze_one {op} (h : ZE X T W a da) : ZE X T W (.BoolOp op [a] pos) da := pe_one h
theorem ze_and {rest : List Expr} (h : ZE X T W a da) (hr : ZE X T W (.BoolOp .And (b :: rest) pos) db) : ZE X T W (.BoolOp .And (a :: b :: rest) pos) (dAnd da db) :=
  (pe_and h hr).imp fun σ H Q ⟨M, ρ, S, rs, re, h⟩ => by
    refine step gOut rs re h fun M1 S1 x v H1 n1 rs1 re1 rx1 fr1 e h1 => ?_
    cases x with
    | bl k =>
      refine ⟨k, rx_bl rx1, ?_⟩
      cases k with
      | true => rw [if_pos rfl]; exact ⟨M1, ρ, S1, rs1, re1, h1⟩
      | false => rw [if_neg Bool.false_ne_true]; exact Out.val h1 rs1 (by simp [RV])
    | _ => exact h1.elim
theorem ze_or {rest : List Expr} (h : ZE X T W a da) (hr : ZE X T W (.BoolOp .Or (b :: rest) pos) db) : ZE X T W (.BoolOp .Or (a :: b :: rest) pos) (dOr da db) :=
  (pe_or h hr).imp fun σ H Q ⟨M, ρ, S, rs, re, h⟩ => by
    refine step gOut rs re h fun M1 S1 x v H1 n1 rs1 re1 rx1 fr1 e h1 => ?_
    cases x with
    | bl k =>
      refine ⟨k, rx_bl rx1, ?_⟩
      cases k with
      | false => rw [if_neg Bool.false_ne_true]; exact ⟨M1, ρ, S1, rs1, re1, h1⟩
      | true => rw [if_pos rfl]; exact Out.val h1 rs1 (by simp [RV])
    | _ => exact h1.elim
theorem ze_not (h : ZE X T W a da) : ZE X T W (.UnaryOp .Not a pos) (dNot da) :=
  (pe_not h).imp fun σ H Q ⟨M, ρ, S, rs, re, h⟩ => by
    refine step gOut rs re h fun M1 S1 x v H1 n1 rs1 re1 rx1 fr1 e h1 => ?_
    cases x with
    | bl k => exact ⟨k, rx_bl rx1, Out.val h1 rs1 (by simp [RV])⟩
    | _ => exact h1.elim
def dIf (t : DT) (da db : DE) : DE := fun ρ S => (t ρ S).bind fun k S1 => if k = true then da ρ S1 else db ρ S1
theorem ze_if (hc : ZT X T W c ta) (ha : ZE X T W a da) (hb : ZE X T W b db) : ZE X T W (.IfExp c a b pos) (dIf ta da db) :=
  (pe_ifExp hc ha hb).imp fun σ H Q ⟨M, ρ, S, rs, re, h⟩ => by
    refine stepT gOut rs re h fun M1 S1 k H1 n1 rs1 re1 e h1 => ?_
    cases k with
    | true => exact ⟨M1, ρ, S1, rs1, re1, h1⟩
    | false => exact ⟨M1, ρ, S1, rs1, re1, h1⟩

/-! ### displays -/
def dTup (r : DA) : DE := fun ρ S => (r ρ S).bind fun xs S1 => if xs.length ≤ 16777216 then .ok (.tup xs) S1 else .bad
def dLst (r : DA) : DE := fun ρ S => (r ρ S).bind fun xs S1 => if xs.length ≤ 16777216 then .ok (.tmp xs) S1 else .bad
theorem ze_tup {es : List Expr} {r : DA} {x1} (h : ZA X T W es r) : ZE X T W (.Tuple es x1 pos) (dTup r) :=
  (pe_tupD h).imp fun σ H Q ⟨M, ρ, S, rs, re, h⟩ => by
    refine stepA gOut rs re h fun M1 S1 xs vs H1 n1 rs1 re1 rx1 e h1 => ?_
    have hs := lineS
    have hl := rx1.length
    split at h1
    · exact ⟨by omega, Out.newTup h1 rs1 rx1⟩
    · exact h1.elim
theorem ze_lst {es : List Expr} {r : DA} (h : ZA X T W es r) : ZE X T W (.List es pos) (dLst r) :=
  (pe_lst h).imp fun σ H Q ⟨M, ρ, S, rs, re, h⟩ => by
    refine stepA gOut rs re h fun M1 S1 xs vs H1 n1 rs1 re1 rx1 e h1 => ?_
    have hs := lineS
    have hl := rx1.length
    split at h1
    · exact ⟨by omega, fun p hp => Out.newTmp h1 rs1 hp rx1⟩
    · exact h1.elim

/-! ### arguments that are handed to a built-in: not bound -/
def RXs (Y : Ctx) (H : Hp) (M : Mp) : List PV → List V → Prop
  | [], vs => vs = []
  | x :: xs, vs => ∃ v vr, vs = v :: vr ∧ RX Y H M x v ∧ RXs Y H M xs vr
theorem RXs.nxt {Y : Ctx} {H H1 : Hp} {M M1 : Mp} (n : Nxt H M H1 M1) : ∀ {xs : List PV} {vs : List V}, RXs Y H M xs vs → RXs Y H1 M1 xs vs
  | [], _, h => h
  | x :: xs, _, h => by obtain ⟨v, vr, e, h1, h2⟩ := h; exact ⟨v, vr, e, h1.nxt n, RXs.nxt n h2⟩
def OutX (Y : Ctx) (W : WX) (σ : L2.St) (H : Hp) (M : Mp) (r : Res (List PV)) (Q : List V → Hp → Prop) : Prop := match r with
  | .ok xs S => ∀ M' H' vs, Nxt H M H' M' → RS Y H' M' S → RXs Y H' M' xs vs → Q vs H'
  | .err c o S => ∀ M' H' cls d, Nxt H M H' M' → RS Y H' M' S → RExc Y H' M' c o cls d → W cls d σ H'
  | .bad => False
def tOfX (Y : Ctx) (W : WX) (d : DA) : TA := fun σ H Q => ∃ M ρ S, RS Y H M S ∧ RE Y H M ρ σ ∧ OutX Y W σ H M (d ρ S) Q
abbrev ZX (X : Cx) (T : List (Addr × Str)) (W : WX) (es : List Expr) (d : DA) : Prop := PA X es (tOfX (yOf X T) W d)
theorem OutX.pull {Y : Ctx} {σ : L2.St} {H0 H1 : Hp} {M0 M1 : Mp} {r : Res (List PV)} {Q : List V → Hp → Prop} (h : OutX Y W σ H0 M0 r Q) (n : Nxt H0 M0 H1 M1) : OutX Y W σ H1 M1 r Q := by
  cases r with
  | ok x S => exact fun M' H' v n' rs rx => h M' H' v (n.trans n') rs rx
  | err c o S => exact fun M' H' cls d n' rs rx => h M' H' cls d (n.trans n') rs rx
  | bad => exact h
theorem gOutX {Y : Ctx} {σ : L2.St} {Q : List V → Hp → Prop} : GK Y W σ (fun H M r => OutX Y W σ H M r Q) := ⟨OutX.pull, fun h => h, fun h => h⟩
theorem stepX {Y : Ctx} {σ : L2.St} {H : Hp} {M : Mp} {S : Store} {ρ : LEnv} {α : Type} {G : Hp → Mp → Res α → Prop} (g : GK Y W σ G) {d : DA} {k : List PV → Store → Res α} {Q : List V → Hp → Prop} (rs : RS Y H M S) (re : RE Y H M ρ σ) (h : G H M ((d ρ S).bind k))
    (f : ∀ M1 S1 xs vs H1, Nxt H M H1 M1 → RS Y H1 M1 S1 → RE Y H1 M1 ρ σ → RXs Y H1 M1 xs vs → d ρ S = .ok xs S1 → G H1 M1 (k xs S1) → Q vs H1) : tOfX Y W d σ H Q := by
  refine ⟨M, ρ, S, rs, re, ?_⟩
  cases e : d ρ S with
  | ok x S1 =>
    rw [e] at h
    exact fun M' H' v n rs' rx => f M' S1 x v H' n rs' (re.nxt n) rx e (g.pull h n)
  | err c o S1 => rw [e] at h; exact g.err h
  | bad => rw [e] at h; exact (g.bad h).elim
def dConsX (d : DE) (r : DA) : DA := fun ρ S => (d ρ S).bind fun x S1 => (r ρ S1).bind fun ys S2 => .ok (x :: ys) S2
theorem zx_nil : ZX X T W [] dNil := pa_nil.imp fun σ H Q ⟨M, ρ, S, rs, re, h⟩ => h M H [] Nxt.refl rs rfl
theorem zx_cons {es : List Expr} {r : DA} (he : ZE X T W e d) (hr : ZX X T W es r) (hs : starEach (e :: es) X.env = (false, eval e X.env) :: starEach es X.env := by rfl) : ZX X T W (e :: es) (dConsX d r) :=
  (pa_cons he hr hs).imp fun σ H Q ⟨M, ρ, S, rs, re, h⟩ => by
    refine step gOutX rs re h fun M1 S1 x v H1 n1 rs1 re1 rx1 fr1 _ h1 => ?_
    refine stepX gOutX rs1 re1 h1 fun M2 S2 ys vs H2 n2 rs2 re2 rys _ h2 => ?_
    exact h2 M2 H2 _ Nxt.refl rs2 ⟨v, vs, rfl, rx1.nxt n2, rys⟩
abbrev OA := List PV → Store → Option PV
def rOfX (Y : Ctx) (g : OA) : List V → Hp → VK → Prop := fun vs H Q => ∃ M S xs z, RS Y H M S ∧ RXs Y H M xs vs ∧ g xs S = some z ∧ OutV Y H M S z Q
def dFn (g : OA) (r : DA) : DE := fun ρ S => (r ρ S).bind fun xs S1 => ofO (g xs S1) S1
theorem fn_of {g : OA} {r : DA} {σ : L2.St} {H : Hp} {Q : VK} (h : tOf (yOf X T) W (dFn g r) σ H Q) : tCB (rOfX (yOf X T) g) (tOfX (yOf X T) W r) σ H Q := by
  obtain ⟨M, ρ, S, rs, re, h⟩ := h
  refine stepX gOut rs re h fun M1 S1 xs vs H1 n1 rs1 re1 rx1 _ h1 => ?_
  cases e : g xs S1 with
  | none => rw [e] at h1; exact h1.elim
  | some z => rw [e] at h1; exact ⟨M1, S1, xs, z, rs1, rx1, e, h1⟩
theorem ze_callB {g : OA} {r : DA} {x : Str} {id : String} {es : List Expr} {p : Pos} (hc : CallR X (.builtin id) (rOfX (yOf X T) g)) (hg : Gl X x) (hm : X.mg x = none) (hv : bootBuiltins x = some (.builtin id)) (ha : ZX X T W (e :: es) r)
    (hn : x ≠ "__name__" := by decide) (hdb : (x == ("__debug__" : Str)) = false := by decide) (he : starEach (e :: es) X.env = (false, eval e X.env) :: starEach es X.env := by rfl) (hpl : (backTo pos (starEach es X.env)).any (·.1) = false := by rfl) :
    ZE X T W (.Call (.Name x p) (e :: es) [] pos) (dFn g r) := (pe_callB hc hg hm hv ha hn hdb he hpl).imp fun σ H Q h => fn_of h
theorem ze_callTy {g : OA} {r : DA} {x : Str} {id : String} {es : List Expr} {p : Pos} (hc : CallR X (.type id) (rOfX (yOf X T) g)) (hg : Gl X x) (hm : X.mg x = none) (hv : bootBuiltins x = some (.type id)) (ha : ZX X T W (e :: es) r)
    (hn : x ≠ "__name__" := by decide) (hdb : (x == ("__debug__" : Str)) = false := by decide) (he : starEach (e :: es) X.env = (false, eval e X.env) :: starEach es X.env := by rfl) (hpl : (backTo pos (starEach es X.env)).any (·.1) = false := by rfl) :
    ZE X T W (.Call (.Name x p) (e :: es) [] pos) (dFn g r) := (pe_callTy hc hg hm hv ha hn hdb he hpl).imp fun σ H Q h => fn_of h

/-! ### one-argument built-ins -/
section
variable {Y : Ctx} {H : Hp} {M : Mp} {S : Store}
theorem rxs1 {x : PV} {vs : List V} (h : RXs Y H M [x] vs) : ∃ v, vs = [v] ∧ RX Y H M x v := by
  obtain ⟨v, vr, rfl, h1, h2⟩ := h
  cases h2; exact ⟨v, rfl, h1⟩
theorem rxs2 {x y : PV} {vs : List V} (h : RXs Y H M [x, y] vs) : ∃ v w, vs = [v, w] ∧ RX Y H M x v ∧ RX Y H M y w := by
  obtain ⟨v, vr, rfl, h1, h2⟩ := h
  obtain ⟨w, rfl, h3⟩ := rxs1 h2
  exact ⟨v, w, rfl, h1, h3⟩
/-- all items of one kind -/
def intsOf : List PV → Option (List Int)
  | [] => some []
  | .int i :: xs => (intsOf xs).map (i :: ·)
  | _ :: _ => none
def blsOf : List PV → Option (List Bool)
  | [] => some []
  | .bl i :: xs => (blsOf xs).map (i :: ·)
  | _ :: _ => none
def strsOf : List PV → Option (List Str)
  | [] => some []
  | .str i :: xs => (strsOf xs).map (i :: ·)
  | _ :: _ => none
theorem ints_vs : ∀ {xs : List PV} {vs : List V} {ns : List Int}, RVs Y H M xs vs → intsOf xs = some ns → vs = ns.map V.int
  | [], vs, ns, h, e => by simp only [RVs] at h; subst h; cases e; rfl
  | x :: xs, vs, ns, h, e => by
    simp only [RVs] at h
    obtain ⟨v, vr, rfl, h1, h2⟩ := h
    cases x with
    | int i =>
      simp only [intsOf, Option.map_eq_some_iff] at e
      obtain ⟨ms, e1, rfl⟩ := e
      simp only [RV] at h1
      subst h1
      rw [ints_vs h2 e1]; rfl
    | _ => cases e
theorem bls_vs : ∀ {xs : List PV} {vs : List V} {ns : List Bool}, RVs Y H M xs vs → blsOf xs = some ns → vs = ns.map V.bl
  | [], vs, ns, h, e => by simp only [RVs] at h; subst h; cases e; rfl
  | x :: xs, vs, ns, h, e => by
    simp only [RVs] at h
    obtain ⟨v, vr, rfl, h1, h2⟩ := h
    cases x with
    | bl i =>
      simp only [blsOf, Option.map_eq_some_iff] at e
      obtain ⟨ms, e1, rfl⟩ := e
      simp only [RV] at h1
      subst h1
      rw [bls_vs h2 e1]; rfl
    | _ => cases e
theorem strs_vs : ∀ {xs : List PV} {vs : List V} {ns : List Str}, RVs Y H M xs vs → strsOf xs = some ns → vs = ns.map V.str
  | [], vs, ns, h, e => by simp only [RVs] at h; subst h; cases e; rfl
  | x :: xs, vs, ns, h, e => by
    simp only [RVs] at h
    obtain ⟨v, vr, rfl, h1, h2⟩ := h
    cases x with
    | str i =>
      simp only [strsOf, Option.map_eq_some_iff] at e
      obtain ⟨ms, e1, rfl⟩ := e
      simp only [RV] at h1
      subst h1
      rw [strs_vs h2 e1]; rfl
    | _ => cases e
theorem rvs_strs (ss : List Str) : RVs Y H M (ss.map .str) (ss.map V.str) := by
  induction ss with
  | nil => exact RVs.nil
  | cons s r ih => exact RVs.cons (by simp [RV]) ih
theorem rvs_ints (ss : List Int) : RVs Y H M (ss.map .int) (ss.map V.int) := by
  induction ss with
  | nil => exact RVs.nil
  | cons s r ih => exact RVs.cons (by simp [RV]) ih
@[simp] theorem intsOf_map (ns : List Int) : intsOf (ns.map .int) = some ns := by induction ns <;> simp_all [intsOf]
@[simp] theorem blsOf_map (ns : List Bool) : blsOf (ns.map .bl) = some ns := by induction ns <;> simp_all [blsOf]
@[simp] theorem strsOf_map (ns : List Str) : strsOf (ns.map .str) = some ns := by induction ns <;> simp_all [strsOf]
end
def fLen : OA := fun xs S => match xs with
  | [.str s] => if s.length ≤ 16777216 then some (.int s.length) else none
  | [x] => (seqOf x S).map fun ys => .int ys.length
  | _ => none
theorem cz_len : CallR X (.builtin "len") (rOfX (yOf X T) fLen) := by
  intro pins s σ H vs us Q I r ⟨M, S, xs, z, rs, rx, e, q⟩
  have hs := lineS
  unfold fLen at e
  split at e
  · split at e
    · cases e
      obtain ⟨v, rfl, h1⟩ := rxs1 rx
      cases rx_str h1
      exact call_len_str pins s σ H _ us Q I r ⟨_, rfl, by omega, q.int rs⟩
    · cases e
  · obtain ⟨v, rfl, h1⟩ := rxs1 rx
    simp only [Option.map_eq_some_iff] at e
    obtain ⟨ys, e1, rfl⟩ := e
    obtain ⟨a, vs, rfl, h2, h3⟩ := rx_seq rs h1 e1
    exact call_len_seq pins s σ H _ us Q I r ⟨a, vs, rfl, h2, by rw [h3.length]; exact q.int rs⟩
  · cases e
def fAll : OA := fun xs S => match xs with | [x] => ((lstOf x S).bind blsOf).map fun bs => .bl (bs.all id) | _ => none
theorem cz_all (hc : X.calm = true) : CallR X (.builtin "all") (rOfX (yOf X T) fAll) := by
  intro pins s σ H vs us Q I r ⟨M, S, xs, z, rs, rx, e, q⟩
  unfold fAll at e
  split at e
  · obtain ⟨v, rfl, h1⟩ := rxs1 rx
    simp only [Option.map_eq_some_iff, Option.bind_eq_some_iff] at e
    obtain ⟨bs, ⟨ys, e1, e2⟩, rfl⟩ := e
    obtain ⟨a, vs, rfl, h2, h3⟩ := rx_lst rs h1 e1
    exact cr_all hc pins s σ H _ us Q I r ⟨a, bs, rfl, by rw [← bls_vs h3 e2]; exact h2, q.bl rs⟩
  · cases e
def fSum : OA := fun xs S => match xs with | [x] => ((lstOf x S).bind intsOf).map fun ns => .int ns.sum | _ => none
theorem cz_sum (hc : X.calm = true) : CallR X (.builtin "sum") (rOfX (yOf X T) fSum) := by
  intro pins s σ H vs us Q I r ⟨M, S, xs, z, rs, rx, e, q⟩
  unfold fSum at e
  split at e
  · obtain ⟨v, rfl, h1⟩ := rxs1 rx
    simp only [Option.map_eq_some_iff, Option.bind_eq_some_iff] at e
    obtain ⟨bs, ⟨ys, e1, e2⟩, rfl⟩ := e
    obtain ⟨a, vs, rfl, h2, h3⟩ := rx_lst rs h1 e1
    exact cr_sum hc pins s σ H _ us Q I r ⟨a, bs, rfl, by rw [← ints_vs h3 e2]; exact h2, q.int rs⟩
  · cases e
/-- max, min of two numbers or of a list of numbers -/
def maxL : List Int → Int
  | [] => 0
  | x :: xs => xs.foldl max x
def minL : List Int → Int
  | [] => 0
  | x :: xs => xs.foldl min x
theorem foldl_max_mem : ∀ (xs : List Int) (x : Int), xs.foldl max x ∈ x :: xs ∧ ∀ y ∈ x :: xs, y ≤ xs.foldl max x
  | [], x => ⟨by simp, fun y hy => by simp at hy; simp [hy]⟩
  | z :: xs, x => by
    obtain ⟨h1, h2⟩ := foldl_max_mem xs (max x z)
    simp only [List.foldl_cons]
    refine ⟨?_, fun y hy => ?_⟩
    · rcases List.mem_cons.mp h1 with e | e
      · rw [e]
        rcases Int.le_total x z with h | h
        · rw [Int.max_eq_right h]; simp
        · rw [Int.max_eq_left h]; simp
      · exact List.mem_cons_of_mem _ (List.mem_cons_of_mem _ e)
    · have hm := h2 (max x z) List.mem_cons_self
      rcases List.mem_cons.mp hy with e | e
      · subst e; exact Int.le_trans (Int.le_max_left _ _) hm
      · rcases List.mem_cons.mp e with e | e
        · subst e; exact Int.le_trans (Int.le_max_right _ _) hm
        · exact h2 y (List.mem_cons_of_mem _ e)
theorem foldl_min_mem : ∀ (xs : List Int) (x : Int), xs.foldl min x ∈ x :: xs ∧ ∀ y ∈ x :: xs, xs.foldl min x ≤ y
  | [], x => ⟨by simp, fun y hy => by simp at hy; simp [hy]⟩
  | z :: xs, x => by
    obtain ⟨h1, h2⟩ := foldl_min_mem xs (min x z)
    simp only [List.foldl_cons]
    refine ⟨?_, fun y hy => ?_⟩
    · rcases List.mem_cons.mp h1 with e | e
      · rw [e]
        rcases Int.le_total x z with h | h
        · rw [Int.min_eq_left h]; simp
        · rw [Int.min_eq_right h]; simp
      · exact List.mem_cons_of_mem _ (List.mem_cons_of_mem _ e)
    · have hm := h2 (min x z) List.mem_cons_self
      rcases List.mem_cons.mp hy with e | e
      · subst e; exact Int.le_trans hm (Int.min_le_left _ _)
      · rcases List.mem_cons.mp e with e | e
        · subst e; exact Int.le_trans hm (Int.min_le_right _ _)
        · exact h2 y (List.mem_cons_of_mem _ e)
theorem maxL_mem {ns : List Int} (h : ns ≠ []) : maxL ns ∈ ns ∧ ∀ y ∈ ns, y ≤ maxL ns := by
  cases ns with
  | nil => exact absurd rfl h
  | cons x xs => exact foldl_max_mem xs x
theorem minL_mem {ns : List Int} (h : ns ≠ []) : minL ns ∈ ns ∧ ∀ y ∈ ns, minL ns ≤ y := by
  cases ns with
  | nil => exact absurd rfl h
  | cons x xs => exact foldl_min_mem xs x
theorem maxL_uniq {ns : List Int} {m : Int} (h1 : m ∈ ns) (h2 : ∀ y ∈ ns, y ≤ m) : m = maxL ns := by
  obtain ⟨a, b⟩ := maxL_mem (List.ne_nil_of_mem h1)
  exact Int.le_antisymm (b m h1) (h2 _ a)
theorem minL_uniq {ns : List Int} {m : Int} (h1 : m ∈ ns) (h2 : ∀ y ∈ ns, m ≤ y) : m = minL ns := by
  obtain ⟨a, b⟩ := minL_mem (List.ne_nil_of_mem h1)
  exact Int.le_antisymm (h2 _ a) (b m h1)
def fMax : OA := fun xs S => match xs with
  | [.int i, .int j] => some (.int (max i j))
  | [x] => ((lstOf x S).bind intsOf).bind fun ns => if ns = [] then none else some (.int (maxL ns))
  | _ => none
def fMin : OA := fun xs S => match xs with
  | [.int i, .int j] => some (.int (min i j))
  | [x] => ((lstOf x S).bind intsOf).bind fun ns => if ns = [] then none else some (.int (minL ns))
  | _ => none
theorem cz_max (hc : X.calm = true) : CallR X (.builtin "max") (rOfX (yOf X T) fMax) := by
  intro pins s σ H vs us Q I r ⟨M, S, xs, z, rs, rx, e, q⟩
  unfold fMax at e
  split at e
  · rename_i i j
    cases e
    obtain ⟨v, w, rfl, h1, h2⟩ := rxs2 rx
    cases rx_int h1; cases rx_int h2
    refine call_max2 hc pins s σ H _ us Q I r ⟨i, j, rfl, ?_⟩
    have e : (if j > i then j else i) = max i j := by
      split
      · rw [Int.max_eq_right (by omega)]
      · rw [Int.max_eq_left (by omega)]
    rw [e]; exact q.int rs
  · obtain ⟨v, rfl, h1⟩ := rxs1 rx
    simp only [Option.bind_eq_some_iff] at e
    obtain ⟨ns, ⟨ys, e1, e2⟩, e3⟩ := e
    split at e3
    · cases e3
    · rename_i hne
      cases e3
      obtain ⟨a, vs, rfl, h2, h3⟩ := rx_lst rs h1 e1
      exact cr_max hc pins s σ H _ us Q I r ⟨a, ns, rfl, by rw [← ints_vs h3 e2]; exact h2, List.length_pos_iff.mpr hne, fun m hm hle => by rw [maxL_uniq hm hle]; exact q.int rs⟩
  · cases e
theorem cz_min (hc : X.calm = true) : CallR X (.builtin "min") (rOfX (yOf X T) fMin) := by
  intro pins s σ H vs us Q I r ⟨M, S, xs, z, rs, rx, e, q⟩
  unfold fMin at e
  split at e
  · rename_i i j
    cases e
    obtain ⟨v, w, rfl, h1, h2⟩ := rxs2 rx
    cases rx_int h1; cases rx_int h2
    refine call_min2 hc pins s σ H _ us Q I r ⟨i, j, rfl, ?_⟩
    have e : (if j < i then j else i) = min i j := by
      split
      · rw [Int.min_eq_right (by omega)]
      · rw [Int.min_eq_left (by omega)]
    rw [e]; exact q.int rs
  · obtain ⟨v, rfl, h1⟩ := rxs1 rx
    simp only [Option.bind_eq_some_iff] at e
    obtain ⟨ns, ⟨ys, e1, e2⟩, e3⟩ := e
    split at e3
    · cases e3
    · rename_i hne
      cases e3
      obtain ⟨a, vs, rfl, h2, h3⟩ := rx_lst rs h1 e1
      exact cr_min hc pins s σ H _ us Q I r ⟨a, ns, rfl, by rw [← ints_vs h3 e2]; exact h2, List.length_pos_iff.mpr hne, fun m hm hle => by rw [minL_uniq hm hle]; exact q.int rs⟩
  · cases e
/-- int of a number, of a truth; str of a number -/
def fInt : OA := fun xs _ => match xs with | [.int i] => some (.int i) | [.bl k] => some (.int (if k then 1 else 0)) | _ => none
theorem cz_int : CallR X (.type "int") (rOfX (yOf X T) fInt) := by
  intro pins s σ H vs us Q I r ⟨M, S, xs, z, rs, rx, e, q⟩
  unfold fInt at e
  split at e
  · cases e
    obtain ⟨v, rfl, h1⟩ := rxs1 rx
    cases rx_int h1
    exact call_int1 pins s σ H _ us Q I r (.inl ⟨_, rfl, q.int rs⟩)
  · cases e
    obtain ⟨v, rfl, h1⟩ := rxs1 rx
    cases rx_bl h1
    exact call_int1 pins s σ H _ us Q I r (.inr ⟨_, rfl, q.int rs⟩)
  · cases e
def fStr : OA := fun xs _ => match xs with | [.int i] => if i.natAbs.log2 < 1920 then some (.str (Str.ofString (toString i))) else none | [.bl b] => some (.str (if b then "True" else "False")) | _ => none
theorem cz_str : CallR X (.type "str") (rOfX (yOf X T) fStr) := by
  intro pins s σ H vs us Q I r ⟨M, S, xs, z, rs, rx, e, q⟩
  unfold fStr at e
  split at e
  · split at e
    · cases e
      obtain ⟨v, rfl, h1⟩ := rxs1 rx
      cases rx_int h1
      exact call_str_int pins s σ H _ us Q I r ⟨_, rfl, by assumption, q.str rs⟩
    · cases e
  · cases e
    obtain ⟨v, rfl, h1⟩ := rxs1 rx
    cases rx_bl h1
    obtain ⟨u, rfl, hu⟩ := vals1 r
    cases hu
    exact PySem.P.str_of_bool ⟨.str _, H, I.tok _, ⟨_, rfl⟩, q.str rs⟩
  · cases e
/-- list(..), tuple(..) of a list or tuple -/
def fList : OA := fun xs S => match xs with | [x] => (seqOf x S).map .tmp | _ => none
theorem cz_list : CallR X (.type "list") (rOfX (yOf X T) fList) := by
  intro pins s σ H vs us Q I r ⟨M, S, xs, z, rs, rx, e, q⟩
  unfold fList at e
  split at e
  · obtain ⟨v, rfl, h1⟩ := rxs1 rx
    simp only [Option.map_eq_some_iff] at e
    obtain ⟨ys, e1, rfl⟩ := e
    obtain ⟨a, vs, rfl, h2, h3⟩ := rx_seq rs h1 e1
    exact call_list_of pins s σ H _ us Q I r ⟨a, vs, rfl, h2, fun l hl => q.newTmp rs h3 hl⟩
  · cases e
def fTuple : OA := fun xs S => match xs with | [x] => (seqOf x S).map .tup | _ => none
theorem cz_tuple : CallR X (.type "tuple") (rOfX (yOf X T) fTuple) := by
  intro pins s σ H vs us Q I r ⟨M, S, xs, z, rs, rx, e, q⟩
  unfold fTuple at e
  split at e
  · rename_i x
    obtain ⟨v, rfl, h1⟩ := rxs1 rx
    simp only [Option.map_eq_some_iff] at e
    obtain ⟨ys, e1, rfl⟩ := e
    cases x with
    | tup zs =>
      obtain ⟨a', vs', rfl, h4, h5⟩ := rx_tup h1
      cases e1
      exact call_tuple_ofD pins s σ H _ us Q I r ⟨a', vs', rfl, .inr ⟨h4.sqt, q.val rs (by simp only [RV]; exact ⟨_, vs', rfl, h4, h5⟩)⟩⟩
    | _ =>
      obtain ⟨a, vs, rfl, h2, h3⟩ := rx_lst rs h1 e1
      exact call_tuple_ofD pins s σ H _ us Q I r ⟨a, vs, rfl, .inl ⟨h2, q.newTup rs h3⟩⟩
  · cases e
end
end Z

set_option Elab.async false
set_option linter.all false
set_option maxRecDepth 100000
set_option maxHeartbeats 2000000
/-! # ZF: isinstance, places, slices, methods -/
namespace Z
open PySem PySem.Spec PyProof.Rows L2

/-! ### isinstance -/
def tyP : PV → Option String
  | .non => some "NoneType" | .bl _ => some "bool" | .int _ => some "int" | .str _ => some "str" | .tup _ => some "tuple" | .frz _ => some "list" | .tmp _ => some "list"
  | .ref .lst _ => some "list" | .ref .dic _ => some "dict" | .tmd _ _ => some "dict" | _ => none
/-- the built-in classes that are asked after -/
inductive BT where
  | int | bool | str | tuple | list
  deriving DecidableEq
def BT.name : BT → String
  | .int => "int" | .bool => "bool" | .str => "str" | .tuple => "tuple" | .list => "list"
/-- x is a T -/
def isT : BT → PV → Option Bool
  | _, .non => some false
  | T, .bl _ => some (match T with | .bool => true | .int => true | _ => false)
  | T, .int _ => some (match T with | .int => true | _ => false)
  | T, .str _ => some (match T with | .str => true | _ => false)
  | T, .tup _ => some (match T with | .tuple => true | _ => false)
  | T, .frz _ => some (match T with | .list => true | _ => false)
  | T, .tmp _ => some (match T with | .list => true | _ => false)
  | T, .ref .lst _ => some (match T with | .list => true | _ => false)
  | _, .ref .dic _ => some false
  | _, .tmd _ _ => some false
  | _, _ => none
def isTs : List BT → PV → Option Bool
  | [], _ => some false
  | T :: r, x => match isT T x with | some true => some true | some false => isTs r x | none => none
section
variable {Y : Ctx} {H : Hp} {M : Mp} {S : Store}
theorem ty_of (rs : RS Y H M S) {x : PV} {v : V} {t : String} (h : RX Y H M x v) (e : tyP x = some t) : TyX Y.K H v (.type t) := by
  cases x with
  | non => simp only [RX, RV] at h; subst h; cases e; exact .base .non
  | bl _ => simp only [RX, RV] at h; subst h; cases e; exact .base (.bl _)
  | int _ => simp only [RX, RV] at h; subst h; cases e; exact .base (.int _)
  | str _ => simp only [RX, RV] at h; subst h; cases e; exact .base (.str _)
  | tup _ => obtain ⟨a, vs, rfl, ⟨o, h1, _⟩, _⟩ := rx_tup h; cases e; exact .fTuple h1
  | frz _ =>
    have h : RV Y H M (.frz _) v := h
    simp only [RV] at h
    obtain ⟨a, vs, rfl, h1, _⟩ := h
    cases e
    rcases h1 with ⟨o, h1⟩ | ⟨o, _, _, h1, h2, _⟩
    · exact .base (.frz h1)
    · exact .kList h1 h2
  | tmp _ => obtain ⟨a, vs, rfl, h1, _⟩ := h; cases e; exact .base (.lst h1)
  | tmd _ _ => obtain ⟨a, vs, rfl, h1, _⟩ := h; cases e; exact .base (.dK h1)
  | glo _ => cases e
  | ref k n =>
    have h : RV Y H M (.ref k n) v := h
    simp only [RV] at h
    obtain ⟨hk, rfl⟩ := h
    have hi := (List.getElem?_eq_some_iff.mp hk).1
    obtain ⟨c, hS, hc⟩ := rs.at hi
    have kk : c.kind = k := by
      rw [rs.ks, List.getElem?_map, hS] at hk
      exact Option.some.inj hk
    cases k with
    | lst =>
      cases c with
      | lst xs => obtain ⟨vs, h1, _⟩ := hc; cases e; exact .base (.lst h1)
      | _ => cases kk
    | dic =>
      cases c with
      | dic ks xs => obtain ⟨vs, h1, _⟩ := hc; cases e; exact .base (.dK h1)
      | lck ks xs => obtain ⟨o, vs, h1, _⟩ := hc; cases e; exact .fDict h1
      | _ => cases kk
    | ins => cases e
end
theorem isT_kit {K : PySem.W.Frag} {T : BT} {x : PV} {b : Bool} (h : isT T x = some b) : ∃ t, tyP x = some t ∧ PySem.W.kitOne K (.type t) (.type T.name) = some b := by
  cases x with
  | ref k n => cases k <;> first | (cases h; cases T <;> exact ⟨_, rfl, kit_ty (by decide +kernel)⟩) | cases h
  | glo _ => cases h
  | _ => cases h; cases T <;> exact ⟨_, rfl, kit_ty (by decide +kernel)⟩
section
variable {X : Cx} {T : List (Addr × Str)} {W : WX} {a e : Expr} {da d : DE} {pos : Pos}
def dIsi (ts : List BT) (d : DE) : DE := fun ρ S => (d ρ S).bind fun x S1 => ofO ((isTs ts x).map .bl) S1
/-- isinstance(a, T), T a built-in class -/
theorem ze_isi {n : Str} {t : BT} {p p2 : Pos} (ha : ZE X T W a d) (hg : Gl X "isinstance") (hm : X.mg "isinstance" = none) (hgT : Gl X n) (hmT : X.mg n = none) (hvT : bootBuiltins n = some (.type t.name))
    (hn : n ≠ "__name__" := by decide) (hd : (n == ("__debug__" : Str)) = false := by decide) (he : starEach (a :: [.Name n p2]) X.env = (false, eval a X.env) :: starEach [.Name n p2] X.env := by rfl) :
    ZE X T W (.Call (.Name "isinstance" p) [a, .Name n p2] [] pos) (dIsi [t] d) :=
  (pe_callB call_isi hg hm (by decide +kernel) (pa_cons ha (pa_cons (pe_bltn (v := .ty t.name) hgT hmT hvT rfl hn hd) pa_nil) he) (he := he)).imp fun σ H Q ⟨M, ρ, S, rs, re, h⟩ => by
    refine step gOut rs re h fun M1 S1 x v H1 n1 rs1 re1 rx1 fr1 _ h1 => ?_
    have h1 : Out (yOf X T) W σ H1 M1 (ofO ((isTs [t] x).map .bl) S1) Q := h1
    cases e : isTs [t] x with
    | none => rw [e] at h1; exact h1.elim
    | some b =>
      rw [e] at h1
      have e' : isT t x = some b := by
        simp only [isTs] at e
        split at e
        · rename_i q; cases e; exact q
        · rename_i q; cases e; exact q
        · cases e
      obtain ⟨tt, h2, h3⟩ := isT_kit (K := X.K) e'
      exact ⟨v, .ty t.name, .type tt, .type t.name, b, rfl, .ty t.name, ty_of rs1 rx1 h2, h3, Out.val h1 rs1 (by simp [RV])⟩
/-- isinstance(a, (T1, T2)) -/
theorem ze_isi2 {n1 n2 : Str} {t1 t2 : BT} {p p1 p2 p3 : Pos} {k} (ha : ZE X T W a d) (hg : Gl X "isinstance") (hm : X.mg "isinstance" = none) (hg1 : Gl X n1) (hm1 : X.mg n1 = none) (hv1 : bootBuiltins n1 = some (.type t1.name))
    (hg2 : Gl X n2) (hm2 : X.mg n2 = none) (hv2 : bootBuiltins n2 = some (.type t2.name))
    (hn1 : n1 ≠ "__name__" := by decide) (hd1 : (n1 == ("__debug__" : Str)) = false := by decide) (hn2 : n2 ≠ "__name__" := by decide) (hd2 : (n2 == ("__debug__" : Str)) = false := by decide)
    (he : starEach (a :: [.Tuple [.Name n1 p1, .Name n2 p2] k p3]) X.env = (false, eval a X.env) :: starEach [.Tuple [.Name n1 p1, .Name n2 p2] k p3] X.env := by rfl) :
    ZE X T W (.Call (.Name "isinstance" p) [a, .Tuple [.Name n1 p1, .Name n2 p2] k p3] [] pos) (dIsi [t1, t2] d) :=
  (pe_callB call_isiT hg hm (by decide +kernel) (pa_cons ha (pa_cons (pe_tup (pa_cons (pe_bltn (v := .ty t1.name) hg1 hm1 hv1 rfl hn1 hd1) (pa_cons (pe_bltn (v := .ty t2.name) hg2 hm2 hv2 rfl hn2 hd2) pa_nil))) pa_nil) he) (he := he)).imp fun σ H Q ⟨M, ρ, S, rs, re, h⟩ => by
    refine step gOut rs re h fun M1 S1 x v H1 nn rs1 re1 rx1 fr1 _ h1 => ?_
    have h1 : Out (yOf X T) W σ H1 M1 (ofO ((isTs [t1, t2] x).map .bl) S1) Q := h1
    refine ⟨by show 2 ≤ sizeLine; decide, fun tp htp => ?_⟩
    have sm : Same H1 (upd H1 tp (.tup [.ty t1.name, .ty t2.name])) := same_upd htp
    have rs2 := rs1.same sm
    have rx2 := rx1.nxt (Nxt.same (M := M1) sm)
    have key : ∀ (b b1 : Bool), isT t1 x = some b1 → (b1 = true → b = true) → (b1 = false → isT t2 x = some b) → Q (.bl b) (upd H1 tp (.tup [.ty t1.name, .ty t2.name])) →
        rIsiT X.K [v, .ref tp] (upd H1 tp (.tup [.ty t1.name, .ty t2.name])) Q := fun b b1 e1 f1 f2 q => by
      obtain ⟨tt, h2, h3⟩ := isT_kit (K := X.K) e1
      refine ⟨v, tp, [.ty t1.name, .ty t2.name], .type tt, [.type t1.name, .type t2.name], b, rfl, upd_same, .cons (.ty t1.name) (.cons (.ty t2.name) .nil), ty_of rs2 rx2 h2, ?_, q⟩
      refine kitAny_cons h3 (fun e => ?_) f1
      obtain ⟨tt', h4, h5⟩ := isT_kit (K := X.K) (f2 e)
      rw [h2] at h4
      cases h4
      exact kitAny_cons h5 (fun e => by rw [e]; exact kitAny_nil) fun e => e
    cases e : isTs [t1, t2] x with
    | none => rw [e] at h1; exact h1.elim
    | some b =>
      rw [e] at h1
      have q := Out.same h1 rs1 sm (by simp [RV] : RV (yOf X T) _ M1 (.bl b) (.bl b))
      simp only [isTs] at e
      split at e
      · rename_i q1; cases e; exact key true true q1 (fun _ => rfl) (fun z => by cases z) q
      · rename_i q1
        refine key b false q1 (fun z => by cases z) (fun _ => ?_) q
        split at e
        · rename_i q2; cases e; exact q2
        · rename_i q2; cases e; exact q2
        · cases e
      · cases e

/-! ### places -/
def atP (xs : List PV) (i : Int) : Option PV := atI xs i
theorem rvs_at {Y : Ctx} {H : Hp} {M : Mp} {xs : List PV} {vs : List V} {i : Int} {x : PV} (r : RVs Y H M xs vs) (e : atP xs i = some x) : ∃ v, atI vs i = some v ∧ RV Y H M x v := by
  unfold atP atI at e
  unfold atI
  rw [r.length]
  cases q : ixN xs.length i with
  | none => rw [q] at e; cases e
  | some j =>
    rw [q] at e
    exact RVs.get r e
def oIx : O2 := fun x i S => match i with
  | .int i => match x with
    | .str z => if z.length ≤ 16777216 then (atI z.cps.toList i).map fun c => .str ⟨#[c]⟩ else none
    | x => (seqOf x S).bind fun xs => atP xs i
  | _ => none
theorem ix_z : IxR X (rOf (yOf X T) oIx) := by
  intro value slice pins s σ H x y v u Q I rx ry ⟨M, S, a, b, z, rs, ra, rb, e, q⟩ hsub
  have hs := lineS
  unfold oIx at e
  split at e
  · cases rx_int rb
    split at e
    · split at e
      · simp only [Option.map_eq_some_iff] at e
        obtain ⟨c, e1, rfl⟩ := e
        cases rx_str ra
        exact ix_str value slice pins s σ H _ _ v u Q I rx ry ⟨_, _, c, rfl, rfl, by omega, e1, q.str rs⟩ hsub
      · cases e
    · simp only [Option.bind_eq_some_iff] at e
      obtain ⟨xs, e1, e2⟩ := e
      obtain ⟨p, vs, rfl, h1, h2⟩ := rx_seq rs ra e1
      obtain ⟨w, h3, h4⟩ := rvs_at h2 e2
      rcases h1 with h1 | h1
      · exact ix_list value slice pins s σ H _ _ v u Q I rx ry ⟨p, vs, _, w, rfl, rfl, h1, h3, q.val rs h4⟩ hsub
      · exact ix_tup value slice pins s σ H _ _ v u Q I rx ry ⟨p, vs, _, w, rfl, rfl, h1, h3, q.val rs h4⟩ hsub
  · cases e
theorem ze_ix {b : Expr} {db : DE} (ha : ZE X T W a da) (hb : ZE X T W b db) (hs : PlainIx b := by intro _ _; rfl) : ZE X T W (.Subscript a b pos) (dBin oIx da db) :=
  (pe_ix ix_z ha hb hs).imp fun σ H Q ⟨M, ρ, S, rs, re, h⟩ => by
    refine step gOut rs re h fun M1 S1 x v H1 n1 rs1 re1 rx1 fr1 _ h1 => ?_
    refine step gOut rs1 re1 h1 fun M2 S2 y u H2 n2 rs2 re2 rx2 fr2 _ h2 => ?_
    cases e : oIx x y S2 with
    | none => rw [e] at h2; exact h2.elim
    | some z => rw [e] at h2; exact ⟨M2, S2, x, y, z, rs2, rx1.nxt n2, rx2, e, h2⟩

/-! ### slices -/
def cutP (xs : List PV) (lo hi : Option Int) : List PV := (xs.drop (HT.sIx xs.length 0 lo)).take (HT.sIx xs.length xs.length hi - HT.sIx xs.length 0 lo)
def slP (x : PV) (lo hi : Option Int) (S : Store) : Option PV := match x with
  | .str z => if z.length ≤ 16777216 then some (.str (cutS z lo hi)) else none
  | .tup xs => some (.tup (cutP xs lo hi))
  | x => (lstOf x S).map fun xs => .tmp (cutP xs lo hi)
abbrev DO := LEnv → Store → Res (Option Int)
def dNo : DO := fun _ S => .ok none S
def dPart (d : DE) : DO := fun ρ S => (d ρ S).bind fun x S1 => match x with | .int i => .ok (some i) S1 | _ => .bad
def OutO (Y : Ctx) (W : WX) (σ : L2.St) (H : Hp) (M : Mp) (r : Res (Option Int)) (Q : Option Int → Hp → Prop) : Prop := match r with
  | .ok x S => ∀ M' H', Nxt H M H' M' → RS Y H' M' S → Q x H'
  | .err c o S => ∀ M' H' cls d, Nxt H M H' M' → RS Y H' M' S → RExc Y H' M' c o cls d → W cls d σ H'
  | .bad => False
def tOfO (Y : Ctx) (W : WX) (d : DO) : TO := fun σ H Q => ∃ M ρ S, RS Y H M S ∧ RE Y H M ρ σ ∧ OutO Y W σ H M (d ρ S) Q
theorem OutO.pull {Y : Ctx} {σ : L2.St} {H0 H1 : Hp} {M0 M1 : Mp} {r : Res (Option Int)} {Q : Option Int → Hp → Prop} (h : OutO Y W σ H0 M0 r Q) (n : Nxt H0 M0 H1 M1) : OutO Y W σ H1 M1 r Q := by
  cases r with
  | ok x S => exact fun M' H' n' rs => h M' H' (n.trans n') rs
  | err c o S => exact fun M' H' cls d n' rs rx => h M' H' cls d (n.trans n') rs rx
  | bad => exact h
theorem gOutO {Y : Ctx} {σ : L2.St} {Q : Option Int → Hp → Prop} : GK Y W σ (fun H M r => OutO Y W σ H M r Q) := ⟨OutO.pull, fun h => h, fun h => h⟩
theorem stepO {Y : Ctx} {σ : L2.St} {H : Hp} {M : Mp} {S : Store} {ρ : LEnv} {α : Type} {G : Hp → Mp → Res α → Prop} (g : GK Y W σ G) {d : DO} {k : Option Int → Store → Res α} {Q : Option Int → Hp → Prop} (rs : RS Y H M S) (re : RE Y H M ρ σ) (h : G H M ((d ρ S).bind k))
    (f : ∀ M1 S1 x H1, Nxt H M H1 M1 → RS Y H1 M1 S1 → RE Y H1 M1 ρ σ → d ρ S = .ok x S1 → G H1 M1 (k x S1) → Q x H1) : tOfO Y W d σ H Q := by
  refine ⟨M, ρ, S, rs, re, ?_⟩
  cases e : d ρ S with
  | ok x S1 =>
    rw [e] at h
    exact fun M' H' n rs' => f M' S1 x H' n rs' (re.nxt n) e (g.pull h n)
  | err c o S1 => rw [e] at h; exact g.err h
  | bad => rw [e] at h; exact (g.bad h).elim
theorem _root_.L2.PO.imp {X : Cx} {e : Option Expr} {t t' : TO} (h : PO X e t) (i : ∀ σ H Q, t' σ H Q → t σ H Q) : PO X e t' := ⟨fun pins s σ H Q I q => h.run pins s σ H Q I (i σ H Q q)⟩
abbrev ZO (X : Cx) (T : List (Addr × Str)) (W : WX) (e : Option Expr) (d : DO) : Prop := PO X e (tOfO (yOf X T) W d)
theorem zo_none : ZO X T W none dNo := po_none.imp fun σ H Q ⟨M, ρ, S, rs, re, h⟩ => h M H Nxt.refl rs
theorem zo_some (h : ZE X T W e d) : ZO X T W (some e) (dPart d) := (po_some h).imp fun σ H Q ⟨M, ρ, S, rs, re, h⟩ => by
  refine step gOutO rs re h fun M1 S1 x v H1 n1 rs1 re1 rx1 fr1 _ h1 => ?_
  cases x with
  | int i => exact ⟨i, rx_int rx1, h1 M1 H1 Nxt.refl rs1⟩
  | _ => exact h1.elim
def dSl (d : DE) (lo hi : DO) : DE := fun ρ S => (d ρ S).bind fun x S1 => (lo ρ S1).bind fun l S2 => (hi ρ S2).bind fun u S3 => ofO (slP x l u S3) S3
def rSlZ (Y : Ctx) : V → Option Int → Option Int → Hp → VK → Prop := fun x lo hi H Q => ∃ M S a z, RS Y H M S ∧ RX Y H M a x ∧ slP a lo hi S = some z ∧ OutV Y H M S z Q
theorem rvs_cut {Y : Ctx} {H : Hp} {M : Mp} {xs : List PV} {vs : List V} {lo hi : Option Int} (r : RVs Y H M xs vs) : RVs Y H M (cutP xs lo hi) (cutV vs lo hi) := by
  unfold cutP cutV
  rw [r.length]
  exact (r.drop _).take _
theorem cut_whole {xs : List PV} {lo hi : Option Int} (h1 : HT.sIx xs.length 0 lo = 0) (h2 : HT.sIx xs.length xs.length hi = xs.length) : cutP xs lo hi = xs := by
  unfold cutP
  rw [h1, h2]
  simp
theorem sl_z : SlR X (rSlZ (yOf X T)) := by
  intro pins s σ H x v vl vu lo hi sl Q I rx hs pl pu ⟨M, S, a, z, rs, ra, e, q⟩
  have hl := lineS
  unfold slP at e
  split at e
  · split at e
    · cases e
      cases rx_str ra
      exact sl_str pins s σ H _ v vl vu lo hi sl Q I rx hs pl pu ⟨_, rfl, by omega, q.str rs⟩
    · cases e
  · cases e
    obtain ⟨p, vs, rfl, h1, h2⟩ := rx_tup ra
    refine sl_tupD pins s σ H _ v vl vu lo hi sl Q I rx hs pl pu ⟨p, vs, rfl, h1.sqt, fun hw => ?_, fun _ => q.newTup rs (rvs_cut h2)⟩
    rw [h2.length] at hw
    rw [cut_whole hw.1 hw.2] at q
    exact q.val rs (by simp only [RV]; exact ⟨p, vs, rfl, h1, h2⟩)
  · simp only [Option.map_eq_some_iff] at e
    obtain ⟨xs, e1, rfl⟩ := e
    obtain ⟨p, vs, rfl, h1, h2⟩ := rx_lst rs ra e1
    exact sl_list pins s σ H _ v vl vu lo hi sl Q I rx hs pl pu ⟨p, vs, rfl, h1, fun l hl => q.newTmp rs (rvs_cut h2) hl⟩
theorem ze_sl {lo hi : Option Expr} {dl dh : DO} {p2 : Pos} (he : ZE X T W e d) (hl : ZO X T W lo dl) (hh : ZO X T W hi dh) : ZE X T W (.Subscript e (.Slice lo hi none p2) pos) (dSl d dl dh) :=
  (pe_slice sl_z he hl hh).imp fun σ H Q ⟨M, ρ, S, rs, re, h⟩ => by
    refine step gOut rs re h fun M1 S1 x v H1 n1 rs1 re1 rx1 fr1 _ h1 => ?_
    refine stepO gOut rs1 re1 h1 fun M2 S2 l H2 n2 rs2 re2 _ h2 => ?_
    refine stepO gOut rs2 re2 h2 fun M3 S3 u H3 n3 rs3 re3 _ h3 => ?_
    cases e : slP x l u S3 with
    | none => rw [e] at h3; exact h3.elim
    | some z => rw [e] at h3; exact ⟨M3, S3, x, z, rs3, (rx1.nxt n2).nxt n3, e, h3⟩
end
end Z

set_option Elab.async false
set_option linter.all false
set_option maxRecDepth 100000
set_option maxHeartbeats 2000000
/-! # ZG: methods of lists, tuples, texts -/
namespace Z
open PySem PySem.Spec PyProof.Rows L2

abbrev OM := PV → List PV → Store → Option (PV × Store)
def rOfM (Y : Ctx) (g : OM) : V → List V → Hp → VK → Prop := fun x vs H Q => ∃ M S a xs z S', RS Y H M S ∧ RX Y H M a x ∧ RVs Y H M xs vs ∧ g a xs S = some (z, S') ∧ OutV Y H M S' z Q
def ofP (o : Option (PV × Store)) : Res PV := match o with | some (x, S) => .ok x S | none => .bad
def dMeth (T : BT) (g : OM) (d : DE) (r : DA) : DE := fun ρ S => (d ρ S).bind fun x S1 => if isT T x = some true then (r ρ S1).bind fun xs S2 => ofP (g x xs S2) else .bad
section
variable {Y : Ctx} {H : Hp} {M : Mp} {S : Store}
theorem OutV.cell {n : Nat} {xs : List PV} {vs : List V} {z : PV} {w : V} {Q : VK} (q : OutV Y H M (S.set n (.lst xs)) z Q) (rs : RS Y H M S) (hn : n < M.ks.length) (hk : M.ks[n]? = some .lst) (r : RVs Y H M xs vs) (rz : RV Y H M z w) : Q w (upd H (M.f n) (.lst vs)) :=
  q M _ w (Nxt.cell rs hn (rs.nolck hk (by decide))) (rs.set hn (rs.nolck hk (by decide)) hk ⟨vs, upd_same, r.nxt (Nxt.cell rs hn (rs.nolck hk (by decide)))⟩) (RX.of (rz.nxt (Nxt.cell rs hn (rs.nolck hk (by decide))))) (Fr.of rz)
theorem rvs1 {x : PV} {vs : List V} (h : RVs Y H M [x] vs) : ∃ v, vs = [v] ∧ RV Y H M x v := by
  simp only [RVs] at h
  obtain ⟨v, vr, rfl, h1, rfl⟩ := h
  exact ⟨v, rfl, h1⟩
theorem rvs2 {x y : PV} {vs : List V} (h : RVs Y H M [x, y] vs) : ∃ v w, vs = [v, w] ∧ RV Y H M x v ∧ RV Y H M y w := by
  simp only [RVs] at h
  obtain ⟨v, vr, rfl, h1, w, wr, rfl, h2, rfl⟩ := h
  exact ⟨v, w, rfl, h1, h2⟩
end
section
variable {X : Cx} {T : List (Addr × Str)} {W : WX} {o e : Expr} {es : List Expr} {d : DE} {r : DA} {apos cpos : Pos}
def hasT : BT → Bool
  | .list => true | .tuple => true | .str => true | _ => false
theorem typeIs_of {pins : List (Addr × Obj)} {s : Shared} {σ : L2.St} {H : Hp} {M : Mp} {S : Store} {x : PV} {v : V} {u : Value} {B : BT} (hB : hasT B = true) (I : Inv X pins σ H s) (rv : RelV v u) (rs : RS (yOf X T) H M S) (ra : RX (yOf X T) H M x v) (e : isT B x = some true) :
    s.TypeIs u B.name ∧ ∀ a, u = .ref a → ∃ ob, s.heap.get? a = some ob ∧ ob.dict = none := by
  have lst : ∀ {p : Addr} {xs : List V}, v = .ref p → SqL X.K H p xs → s.TypeIs u "list" ∧ ∀ a, u = .ref a → ∃ ob, s.heap.get? a = some ob ∧ ob.dict = none := fun {p xs} e h => by
    subst e
    exact tyV_is I rv (.inl ⟨rfl, xs, h⟩)
  cases x with
  | non => cases e
  | bl _ => cases B <;> first | (cases e; done) | (cases hB; done)
  | int _ => cases B <;> first | (cases e; done) | (cases hB; done)
  | str z =>
    cases B <;> first
      | (cases e; done)
      | (cases rx_str ra; exact tyV_is I rv rfl)
  | tup _ =>
    cases B <;> first
      | (cases e; done)
      | (obtain ⟨p, vs, rfl, ⟨ob, h1, h2⟩, _⟩ := rx_tup ra
         cases rv
         obtain ⟨h3, h4, its, _, h5⟩ := I.hok p _ h1
         exact ⟨h5.typeIs, fun a e => by cases e; exact ⟨ob, h3, h2⟩⟩)
  | frz xs =>
    cases B <;> first
      | (cases e; done)
      | (obtain ⟨p, vs, e1, h1, _⟩ := rx_lst rs ra (xs := xs) rfl; exact lst e1 h1)
  | tmp xs =>
    cases B <;> first
      | (cases e; done)
      | (obtain ⟨p, vs, e1, h1, _⟩ := rx_lst rs ra (xs := xs) rfl; exact lst e1 h1)
  | glo _ => cases B <;> cases e
  | tmd _ _ => cases B <;> cases e
  | ref k n =>
    cases k with
    | lst =>
      cases B <;> first
        | (cases e; done)
        | (have ra : RV (yOf X T) H M (.ref .lst n) v := ra
           simp only [RV] at ra
           obtain ⟨hk, rfl⟩ := ra
           obtain ⟨c, hS, hc⟩ := rs.at (List.getElem?_eq_some_iff.mp hk).1
           have kk : c.kind = .lst := by
             rw [rs.ks, List.getElem?_map, hS] at hk
             exact Option.some.inj hk
           cases c with
           | lst xs => obtain ⟨vs, h1, _⟩ := hc; exact lst rfl (SqL.of h1)
           | dic _ _ => cases kk
           | lck _ _ => cases kk
           | ins _ _ => cases kk)
    | dic => cases B <;> cases e
    | ins => cases B <;> cases e
theorem ze_meth {name : Str} {id : String} {B : BT} {g : OM} (pa : PlainAttrs B.name) (slot : Slot B.name name id) (hty : typeOf (.builtin id) = pure (.type "method_descriptor")) (hm : MtR X id (rOfM (yOf X T) g)) (hB : hasT B = true)
    (ho : ZE X T W o d) (ha : ZA X T W (e :: es) r) (hbase : attributeBase o name X.env (eval o X.env) = eval o X.env := by rfl)
    (hfew : ((backTo cpos (starEach (e :: es) X.env)).all (fun x => !x.1) && (backToKw cpos (keywordEach [] X.env)).all (fun x => x.1.isSome)
      && decide ((e :: es).length + ([] : List Keyword).length + (if ([] : List Keyword).isEmpty then 0 else 1) < 30)) = true := by rfl)
    (hline : (apos.endLine == cpos.line) = true := by rfl) (hs : starEach (e :: es) X.env = (false, eval e X.env) :: starEach es X.env := by rfl) (hplain : (backTo cpos (starEach es X.env)).any (·.1) = false := by rfl) :
    ZE X T W (.Call (.Attribute o name apos) (e :: es) [] cpos) (dMeth B g d r) := by
  refine ⟨fun pins s σ H Q I ⟨M, ρ, S, rs, re, h⟩ => ?_⟩
  have h1 : tOf (yOf X T) W d σ H (fun x H1 => (∀ (pins : List (Addr × Obj)) (s : Shared) (σ : L2.St) (v : Value), Inv X pins σ H1 s → RelV x v → s.TypeIs v B.name ∧ ∀ a, v = .ref a → ∃ ob, s.heap.get? a = some ob ∧ ob.dict = none) ∧
      tOfA (yOf X T) W r σ H1 fun vs H2 => rOfM (yOf X T) g x vs H2 Q) := by
    refine step gOut rs re h fun M1 S1 x v H1 n1 rs1 re1 rx1 fr1 _ h1 => ?_
    split at h1
    · rename_i ht
      refine ⟨fun pins s σ u I ru => typeIs_of hB I ru rs1 rx1 ht, ?_⟩
      refine stepA gOut rs1 re1 h1 fun M2 S2 xs vs H2 n2 rs2 re2 rx2 _ h2 => ?_
      cases e : g x xs S2 with
      | none => rw [e] at h2; exact h2.elim
      | some z =>
        obtain ⟨z, S3⟩ := z
        rw [e] at h2
        exact ⟨M2, S2, x, xs, z, S3, rs2, rx1.nxt n2, rx2, e, h2⟩
    · exact h1.elim
  refine wpAny_Call_method_late hbase hfew hline rfl (thn (ho.run pins s σ H _ I h1) fun v s1 ⟨x, H1, I1, r1, ty, q1⟩ => ?_)
  obtain ⟨h1, h2⟩ := ty pins s1 σ v I1 r1
  refine ⟨B.name, id, pa, slot, hty, h1, h2, ?_⟩
  have hA := ha.run cpos pins s1 σ H1 _ I1 q1
  rw [hs] at hA ⊢
  refine Calls.callWith_builtin (by show (false || (backTo cpos (starEach es X.env)).any (·.1)) = false; rw [hplain] <;> rfl) (Calls.evalArgs_plain ?_)
  exact thn hA fun us s2 ⟨vs, H2, I2, r2, q2⟩ => hm pins s2 σ H2 x vs v us Q I2 r1 r2 q2
theorem ze_meth0 {name : Str} {id : String} {B : BT} {g : OM} (pa : PlainAttrs B.name) (slot : Slot B.name name id) (hty : typeOf (.builtin id) = pure (.type "method_descriptor")) (hm : MtR X id (rOfM (yOf X T) g)) (hB : hasT B = true)
    (ho : ZE X T W o d) (hbase : attributeBase o name X.env (eval o X.env) = eval o X.env := by rfl) (hline : (apos.endLine == cpos.line) = true := by rfl) :
    ZE X T W (.Call (.Attribute o name apos) [] [] cpos) (dMeth B g d dNil) := by
  refine ⟨fun pins s σ H Q I ⟨M, ρ, S, rs, re, h⟩ => ?_⟩
  have h1 : tOf (yOf X T) W d σ H (fun x H1 => (∀ (pins : List (Addr × Obj)) (s : Shared) (σ : L2.St) (v : Value), Inv X pins σ H1 s → RelV x v → s.TypeIs v B.name ∧ ∀ a, v = .ref a → ∃ ob, s.heap.get? a = some ob ∧ ob.dict = none) ∧
      rOfM (yOf X T) g x [] H1 Q) := by
    refine step gOut rs re h fun M1 S1 x v H1 n1 rs1 re1 rx1 fr1 _ h1 => ?_
    split at h1
    · rename_i ht
      refine ⟨fun pins s σ u I ru => typeIs_of hB I ru rs1 rx1 ht, ?_⟩
      have h2 : Out (yOf X T) W σ H1 M1 (ofP (g x [] S1)) Q := h1
      cases e : g x [] S1 with
      | none => rw [e] at h2; exact h2.elim
      | some z =>
        obtain ⟨z, S3⟩ := z
        rw [e] at h2
        exact ⟨M1, S1, x, [], z, S3, rs1, rx1, RVs.nil, e, h2⟩
    · exact h1.elim
  refine wpAny_Call_method0_late hbase hline (thn (ho.run pins s σ H _ I h1) fun v s1 ⟨x, H1, I1, r1, ty, q1⟩ => ?_)
  obtain ⟨h1, h2⟩ := ty pins s1 σ v I1 r1
  exact ⟨B.name, id, pa, slot, hty, h1, h2, Calls.callWith_builtin rfl (PySem.evalArgs_none (hm pins s1 σ H1 x [] v [] Q I1 r1 .nil q1))⟩

/-- the same where the receiver is a list or a tuple -/
def dMeth2 (g : OM) (d : DE) (r : DA) : DE := fun ρ S => (d ρ S).bind fun x S1 => if isT .list x = some true ∨ isT .tuple x = some true then (r ρ S1).bind fun xs S2 => ofP (g x xs S2) else .bad
theorem ze_meth2 {name : Str} {id1 id2 : String} {g : OM} (slot1 : Slot "list" name id1) (hty1 : typeOf (.builtin id1) = pure (.type "method_descriptor")) (slot2 : Slot "tuple" name id2) (hty2 : typeOf (.builtin id2) = pure (.type "method_descriptor"))
    (hm1 : MtR X id1 (rOfM (yOf X T) fun x as S => if isT .list x = some true then g x as S else none)) (hm2 : MtR X id2 (rOfM (yOf X T) fun x as S => if isT .tuple x = some true then g x as S else none))
    (ho : ZE X T W o d) (ha : ZA X T W (e :: es) r) (hbase : attributeBase o name X.env (eval o X.env) = eval o X.env := by rfl)
    (hfew : ((backTo cpos (starEach (e :: es) X.env)).all (fun x => !x.1) && (backToKw cpos (keywordEach [] X.env)).all (fun x => x.1.isSome)
      && decide ((e :: es).length + ([] : List Keyword).length + (if ([] : List Keyword).isEmpty then 0 else 1) < 30)) = true := by rfl)
    (hline : (apos.endLine == cpos.line) = true := by rfl) (hs : starEach (e :: es) X.env = (false, eval e X.env) :: starEach es X.env := by rfl) (hplain : (backTo cpos (starEach es X.env)).any (·.1) = false := by rfl) :
    ZE X T W (.Call (.Attribute o name apos) (e :: es) [] cpos) (dMeth2 g d r) := by
  refine ⟨fun pins s σ H Q I ⟨M, ρ, S, rs, re, h⟩ => ?_⟩
  have h1 : tOf (yOf X T) W d σ H (fun x H1 => ∃ (T1 id : String), PlainAttrs T1 ∧ Slot T1 name id ∧ typeOf (.builtin id) = pure (.type "method_descriptor") ∧
      (∀ (pins : List (Addr × Obj)) (s : Shared) (σ : L2.St) (v : Value), Inv X pins σ H1 s → RelV x v → s.TypeIs v T1 ∧ ∀ a, v = .ref a → ∃ ob, s.heap.get? a = some ob ∧ ob.dict = none) ∧
      ∃ rr, MtR X id rr ∧ tOfA (yOf X T) W r σ H1 fun vs H2 => rr x vs H2 Q) := by
    refine step gOut rs re h fun M1 S1 x v H1 n1 rs1 re1 rx1 fr1 _ h1 => ?_
    split at h1
    · rename_i ht
      rcases ht with ht | ht
      · refine ⟨"list", id1, PySem.F.plainAttrs_list, slot1, hty1, fun pins s σ u I ru => typeIs_of (B := .list) rfl I ru rs1 rx1 ht, _, hm1, ?_⟩
        refine stepA gOut rs1 re1 h1 fun M2 S2 xs vs H2 n2 rs2 re2 rx2 _ h2 => ?_
        cases e : g x xs S2 with
        | none => rw [e] at h2; exact h2.elim
        | some z =>
          obtain ⟨z, S3⟩ := z
          rw [e] at h2
          exact ⟨M2, S2, x, xs, z, S3, rs2, rx1.nxt n2, rx2, (if_pos ht).trans e, h2⟩
      · refine ⟨"tuple", id2, PySem.F.plainAttrs_tuple, slot2, hty2, fun pins s σ u I ru => typeIs_of (B := .tuple) rfl I ru rs1 rx1 ht, _, hm2, ?_⟩
        refine stepA gOut rs1 re1 h1 fun M2 S2 xs vs H2 n2 rs2 re2 rx2 _ h2 => ?_
        cases e : g x xs S2 with
        | none => rw [e] at h2; exact h2.elim
        | some z =>
          obtain ⟨z, S3⟩ := z
          rw [e] at h2
          exact ⟨M2, S2, x, xs, z, S3, rs2, rx1.nxt n2, rx2, (if_pos ht).trans e, h2⟩
    · exact h1.elim
  refine wpAny_Call_method_late hbase hfew hline rfl (thn (ho.run pins s σ H _ I h1) fun v s1 ⟨x, H1, I1, r1, T1, id, pa, slot, hty, ty, rr, hm, q1⟩ => ?_)
  obtain ⟨h1, h2⟩ := ty pins s1 σ v I1 r1
  refine ⟨T1, id, pa, slot, hty, h1, h2, ?_⟩
  have hA := ha.run cpos pins s1 σ H1 _ I1 q1
  rw [hs] at hA ⊢
  refine Calls.callWith_builtin (by show (false || (backTo cpos (starEach es X.env)).any (·.1)) = false; rw [hplain] <;> rfl) (Calls.evalArgs_plain ?_)
  exact thn hA fun us s2 ⟨vs, H2, I2, r2, q2⟩ => hm pins s2 σ H2 x vs v us Q I2 r1 r2 q2

/-! ### the methods -/
def onCell (x : PV) (S : Store) (f : Nat → List PV → Option (PV × Store)) : Option (PV × Store) := match x with
  | .ref .lst n => match S[n]? with | some (.lst xs) => f n xs | _ => none
  | _ => none
theorem onCell_some {x : PV} {S : Store} {f : Nat → List PV → Option (PV × Store)} {p : PV × Store} (h : onCell x S f = some p) : ∃ n xs, x = .ref .lst n ∧ S[n]? = some (.lst xs) ∧ f n xs = some p := by
  unfold onCell at h
  split at h
  · split at h
    · exact ⟨_, _, rfl, by assumption, h⟩
    · cases h
  · cases h
@[simp] theorem onCell_ref {n : Nat} {S : Store} {f : Nat → List PV → Option (PV × Store)} {xs : List PV} (h : S[n]? = some (.lst xs)) : onCell (.ref .lst n) S f = f n xs := by simp [onCell, h]
def mAppend : OM := fun x as S => onCell x S fun n xs => match as with | [y] => if xs.length < 16777216 then some (.non, S.set n (.lst (xs ++ [y]))) else none | _ => none
theorem mz_append : MtR X "list.append" (rOfM (yOf X T) mAppend) := by
  intro pins s σ H x vs v us Q I rx rv ⟨M, S, a, xs, z, S', rs, ra, rxs, e, q⟩
  have hs := lineS
  obtain ⟨n, ys, rfl, hS, e⟩ := onCell_some e
  obtain ⟨ws, rfl, h1, h2, h3, h4⟩ := rx_cell rs ra hS
  split at e
  · split at e
    · cases e
      obtain ⟨w, rfl, h5⟩ := rvs1 rxs
      have hl := h2.length
      exact mt_append pins s σ H _ _ v us Q I rx rv ⟨_, ws, w, rfl, rfl, h1, by omega, q.cell rs h3 h4 (h2.append (RVs.cons h5 RVs.nil)) (by simp [RV])⟩
    · cases e
  · cases e
def mInsert : OM := fun x as S => onCell x S fun n xs => match as with
  | [.int i, y] => if xs.length < 16777216 ∧ 0 ≤ i ∧ i < 2 ^ 63 then some (.non, S.set n (.lst (xs.take i.toNat ++ [y] ++ xs.drop i.toNat))) else none
  | _ => none
theorem mz_insert : MtR X "list.insert" (rOfM (yOf X T) mInsert) := by
  intro pins s σ H x vs v us Q I rx rv ⟨M, S, a, xs, z, S', rs, ra, rxs, e, q⟩
  have hs := lineS
  obtain ⟨n, ys, rfl, hS, e⟩ := onCell_some e
  obtain ⟨ws, rfl, h1, h2, h3, h4⟩ := rx_cell rs ra hS
  split at e
  · split at e
    · rename_i hc
      cases e
      obtain ⟨w0, w, rfl, h6, h5⟩ := rvs2 rxs
      simp only [RV] at h6
      subst h6
      have hl := h2.length
      exact mt_insert pins s σ H _ _ v us Q I rx rv ⟨_, ws, _, w, rfl, rfl, h1, by omega, hc.2.1, hc.2.2, q.cell rs h3 h4 (((h2.take _).append (RVs.cons h5 RVs.nil)).append (h2.drop _)) (by simp [RV])⟩
    · cases e
  · cases e
def mPop : OM := fun x as S => onCell x S fun n xs => match as with
  | [] => (xs[xs.length - 1]?).map fun y => (y, S.set n (.lst xs.dropLast))
  | [.int i] => if i < 2 ^ 63 then (ixN xs.length i).bind fun k => (xs[k]?).map fun y => (y, S.set n (.lst (xs.eraseIdx k))) else none
  | _ => none
theorem dropLast_take {α : Type} (xs : List α) : xs.dropLast = xs.take (xs.length - 1) := List.dropLast_eq_take
theorem mz_pop : MtR X "list.pop" (rOfM (yOf X T) mPop) := by
  intro pins s σ H x vs v us Q I rx rv ⟨M, S, a, xs, z, S', rs, ra, rxs, e, q⟩
  have hs := lineS
  obtain ⟨n, ys, rfl, hS, e⟩ := onCell_some e
  obtain ⟨ws, rfl, h1, h2, h3, h4⟩ := rx_cell rs ra hS
  have hl := h2.length
  split at e
  · simp only [Option.map_eq_some_iff] at e
    obtain ⟨y, hy, e⟩ := e
    cases e
    simp only [RVs] at rxs
    subst rxs
    obtain ⟨w, h5, h6⟩ := h2.get hy
    rw [← hl] at h5
    refine mt_pop pins s σ H _ _ v us Q I rx rv ⟨_, ws, w, rfl, rfl, h1, h5, ?_⟩
    rw [dropLast_take, hl]
    rw [dropLast_take] at q
    exact q.cell rs h3 h4 (h2.take _) h6
  · split at e
    · rename_i i hi63
      simp only [Option.map_eq_some_iff, Option.bind_eq_some_iff] at e
      obtain ⟨k, hk, y, hy, e⟩ := e
      cases e
      obtain ⟨w0, rfl, h7⟩ := rvs1 rxs
      simp only [RV] at h7
      subst h7
      obtain ⟨w, h5, h6⟩ := h2.get hy
      obtain ⟨k1, k2, k3, k4⟩ := ixN_seq hk
      have hz : ws.length ≤ sizeLine := by
        obtain ⟨z, _⟩ := I.lstM h1
        exact z
      exact mt_popAt pins s σ H _ _ v us Q I rx rv ⟨_, ws, _, k, w, rfl, rfl, h1, by omega, hi63, by rw [hl]; exact k1, h5, q.cell rs h3 h4 (h2.eraseIdx k) h6⟩
    · cases e
  · cases e
def mReverse : OM := fun x as S => onCell x S fun n xs => match as with | [] => some (.non, S.set n (.lst xs.reverse)) | _ => none
theorem mz_reverse : MtR X "list.reverse" (rOfM (yOf X T) mReverse) := by
  intro pins s σ H x vs v us Q I rx rv ⟨M, S, a, xs, z, S', rs, ra, rxs, e, q⟩
  obtain ⟨n, ys, rfl, hS, e⟩ := onCell_some e
  obtain ⟨ws, rfl, h1, h2, h3, h4⟩ := rx_cell rs ra hS
  split at e
  · cases e
    simp only [RVs] at rxs
    subst rxs
    exact mt_reverse pins s σ H _ _ v us Q I rx rv ⟨_, ws, rfl, rfl, h1, q.cell rs h3 h4 h2.reverse (by simp [RV])⟩
  · cases e

/-! ### index, count, remove: by == of data -/
/-- the first place of an item == y -/
def placeD (S : Store) (y : PV) (xs : List PV) : Option Nat := (hitsD S y xs).bind fun p => SeqAt.dataPlace p.2 p.1
def mIndex : OM := fun x as S => match as with | [y] => (seqOf x S).bind fun xs => (placeD S y xs).map fun j => (.int (j : Nat), S) | _ => none
def mCount : OM := fun x as S => match as with | [y] => (seqOf x S).bind fun xs => (hitsD S y xs).map fun p => (.int ((p.2.countP fun z => PyData.eqv z p.1 : Nat) : Int), S) | _ => none
def mRemove : OM := fun x as S => onCell x S fun n xs => match as with | [y] => (placeD S y xs).map fun j => (.non, S.set n (.lst (xs.eraseIdx j))) | _ => none
theorem hits_vals (hu : X.A.units + 65 < cLine) {pins : List (Addr × Obj)} {s : Shared} {σ : L2.St} {H : Hp} {M : Mp} {S : Store} {x : V} {v : Value} {a : PV} {xs : List PV} {vs : List V} {p : PyData × List PyData} {its : List Value} (I : Inv X pins σ H s) (rx : RelV x v) (rs : RS (yOf X T) H M S)
    (ra : RX (yOf X T) H M a x) (rxs : RVs (yOf X T) H M xs vs) (e : hitsD S a xs = some p) (r : Vals vs its) :
    ∃ as bs, ReadsAll s.heap its as bs ∧ as = p.2 ∧ (∃ cs, Reads s.heap v p.1 cs) ∧ p.1.plain = true ∧ PyData.plainAll p.2 = true ∧ X.A.units + 1 + min (PyData.depthAll p.2) p.1.depth < cLine := by
  obtain ⟨bs, r1, dp, p1, p2, hm⟩ := hits_reads I rx rs ra rxs e
  obtain ⟨as, r2⟩ := Dp.readsAll I p.2 vs its dp r
  exact ⟨p.2, as, r2, rfl, ⟨bs, r1⟩, p1, p2, by omega⟩
theorem mz_index_list (hu : X.A.units + 65 < cLine) : MtR X "list.index" (rOfM (yOf X T) fun x as S => if isT .list x = some true then mIndex x as S else none) := by
  intro pins s σ H x vs v us Q I rx rv ⟨M, S, a, xs, z, S', rs, ra, rxs, e, q⟩
  dsimp only at e
  split at e
  · rename_i ht
    unfold mIndex at e
    split at e
    · simp only [Option.bind_eq_some_iff, Option.map_eq_some_iff] at e
      obtain ⟨ys, e1, j, e2, e3⟩ := e
      cases e3
      unfold placeD at e2
      simp only [Option.bind_eq_some_iff] at e2
      obtain ⟨p, e2, e3⟩ := e2
      have e1' : lstOf a S = some ys := by cases a <;> first | exact e1 | (simp [isT] at ht)
      obtain ⟨l, ws, rfl, h1, h2⟩ := rx_lst rs ra e1'
      obtain ⟨w, rfl, h3⟩ := rvs1 rxs
      obtain ⟨u, rfl, ru⟩ := rv.one
      cases rx
      obtain ⟨its, r, ⟨⟨cls, dd, data, sl⟩, n, ho, hc, hdn, hd⟩, hz⟩ := I.list h1
      simp only at hc hd hdn
      subst hc hd
      obtain ⟨as, bs, r2, rfl, ⟨cs, r1⟩, p1, p2, hu'⟩ := hits_vals hu I ru rs (RX.of h3) h2 e2 r
      obtain ⟨hj, hit, hno⟩ := SeqAt.hit_at (vs := its.toArray) (show ReadsAll s.heap its.toArray.toList _ _ from r2) p2 e3
      have hl := r.length
      have hsl := lineS
      refine call_meets PySem.F.slot_list_index ⟨_, ho, rfl⟩ PySem.F.entry_list_index (PySem.F.args_list_index_2 _ _) (SeqAt.list_indexAt l its.toArray n dd sl u _ j hj (by simp only [List.size_toArray] at hj; omega) hit hno)
        ⟨ho, SeqAt.items_plain (vs := its.toArray) (show ReadsAll s.heap its.toArray.toList _ _ from r2) r1 p2 p1 hu', ⟨.int (j : Nat), H, I.tok _, ⟨_, rfl⟩, q.int rs⟩⟩
    · cases e
  · cases e
theorem mz_index_tuple (hu : X.A.units + 65 < cLine) : MtR X "tuple.index" (rOfM (yOf X T) fun x as S => if isT .tuple x = some true then mIndex x as S else none) := by
  intro pins s σ H x vs v us Q I rx rv ⟨M, S, a, xs, z, S', rs, ra, rxs, e, q⟩
  dsimp only at e
  split at e
  · rename_i ht
    unfold mIndex at e
    split at e
    · simp only [Option.bind_eq_some_iff, Option.map_eq_some_iff] at e
      obtain ⟨ys, e1, j, e2, e3⟩ := e
      cases e3
      unfold placeD at e2
      simp only [Option.bind_eq_some_iff] at e2
      obtain ⟨p, e2, e3⟩ := e2
      have : a = .tup ys := by
        cases a with
        | tup zs => cases e1; rfl
        | ref k n => cases k <;> simp [isT] at ht
        | _ => simp [isT] at ht
      subst this
      obtain ⟨l, ws, rfl, h1, h2⟩ := rx_tup ra
      obtain ⟨w, rfl, h3⟩ := rvs1 rxs
      obtain ⟨u, rfl, ru⟩ := rv.one
      cases rx
      obtain ⟨its, r, ⟨⟨cls, dd, data, sl⟩, ho, hc, n, hd⟩, hz⟩ := I.tuple h1.sqt
      simp only at hc hd
      subst hc hd
      obtain ⟨as, bs, r2, rfl, ⟨cs, r1⟩, p1, p2, hu'⟩ := hits_vals hu I ru rs (RX.of h3) h2 e2 r
      obtain ⟨hj, hit, hno⟩ := SeqAt.hit_at (vs := its.toArray) (show ReadsAll s.heap its.toArray.toList _ _ from r2) p2 e3
      refine call_meets PySem.F.slot_tuple_index ⟨_, ho, rfl⟩ PySem.F.entry_tuple_index (PySem.F.args_tuple_index_2 _ _) (TI.tuple_indexAt l its.toArray n dd sl u _ j hj hit hno)
        ⟨ho, SeqAt.items_plain (vs := its.toArray) (show ReadsAll s.heap its.toArray.toList _ _ from r2) r1 p2 p1 hu', ⟨.int (j : Nat), H, I.tok _, ⟨_, rfl⟩, q.int rs⟩⟩
    · cases e
  · cases e
theorem mz_count_list (hu : X.A.units + 65 < cLine) : MtR X "list.count" (rOfM (yOf X T) fun x as S => if isT .list x = some true then mCount x as S else none) := by
  intro pins s σ H x vs v us Q I rx rv ⟨M, S, a, xs, z, S', rs, ra, rxs, e, q⟩
  dsimp only at e
  split at e
  · rename_i ht
    unfold mCount at e
    split at e
    · simp only [Option.bind_eq_some_iff, Option.map_eq_some_iff] at e
      obtain ⟨ys, e1, p, e2, e3⟩ := e
      cases e3
      have e1' : lstOf a S = some ys := by cases a <;> first | exact e1 | (simp [isT] at ht)
      obtain ⟨l, ws, rfl, h1, h2⟩ := rx_lst rs ra e1'
      obtain ⟨w, rfl, h3⟩ := rvs1 rxs
      obtain ⟨u, rfl, ru⟩ := rv.one
      cases rx
      obtain ⟨its, r, pl, hz⟩ := I.list h1
      obtain ⟨as, bs, r2, rfl, ⟨cs, r1⟩, p1, p2, hu'⟩ := hits_vals hu I ru rs (RX.of h3) h2 e2 r
      exact SeqAt.count_list_data pl.isList (show ReadsAll s.heap its.toArray.toList _ _ from r2) r1 p2 p1 hu' ⟨.int _, H, I.tok _, ⟨_, rfl⟩, q.int rs⟩
    · cases e
  · cases e
theorem mz_count_tuple (hu : X.A.units + 65 < cLine) : MtR X "tuple.count" (rOfM (yOf X T) fun x as S => if isT .tuple x = some true then mCount x as S else none) := by
  intro pins s σ H x vs v us Q I rx rv ⟨M, S, a, xs, z, S', rs, ra, rxs, e, q⟩
  dsimp only at e
  split at e
  · rename_i ht
    unfold mCount at e
    split at e
    · simp only [Option.bind_eq_some_iff, Option.map_eq_some_iff] at e
      obtain ⟨ys, e1, p, e2, e3⟩ := e
      cases e3
      have : a = .tup ys := by
        cases a with
        | tup zs => cases e1; rfl
        | ref k n => cases k <;> simp [isT] at ht
        | _ => simp [isT] at ht
      subst this
      obtain ⟨l, ws, rfl, h1, h2⟩ := rx_tup ra
      obtain ⟨w, rfl, h3⟩ := rvs1 rxs
      obtain ⟨u, rfl, ru⟩ := rv.one
      cases rx
      obtain ⟨its, r, pl, hz⟩ := I.tuple h1.sqt
      obtain ⟨as, bs, r2, rfl, ⟨cs, r1⟩, p1, p2, hu'⟩ := hits_vals hu I ru rs (RX.of h3) h2 e2 r
      exact SeqAt.count_tuple_data (show s.heap.IsTuple l its.toArray from pl) (show ReadsAll s.heap its.toArray.toList _ _ from r2) r1 p2 p1 hu' ⟨.int _, H, I.tok _, ⟨_, rfl⟩, q.int rs⟩
    · cases e
  · cases e
theorem mz_remove (hu : X.A.units + 65 < cLine) : MtR X "list.remove" (rOfM (yOf X T) mRemove) := by
  intro pins s σ H x vs v us Q I rx rv ⟨M, S, a, xs, z, S', rs, ra, rxs, e, q⟩
  obtain ⟨n, ys, rfl, hS, e⟩ := onCell_some e
  obtain ⟨ws, rfl, h1, h2, h3, h4⟩ := rx_cell rs ra hS
  split at e
  · simp only [Option.map_eq_some_iff] at e
    obtain ⟨j, e2, e3⟩ := e
    cases e3
    unfold placeD at e2
    simp only [Option.bind_eq_some_iff] at e2
    obtain ⟨p, e2, e3⟩ := e2
    obtain ⟨w, rfl, h5⟩ := rvs1 rxs
    obtain ⟨u, rfl, ru⟩ := rv.one
    cases rx
    obtain ⟨hz, its, k, r, hl, ho⟩ := I.lstM h1
    obtain ⟨as, bs, r2, rfl, ⟨cs, r1⟩, p1, p2, hu'⟩ := hits_vals hu I ru rs (RX.of h5) h2 e2 r
    obtain ⟨hj, _⟩ := SeqAt.hit_at (vs := its.toArray) (show ReadsAll s.heap its.toArray.toList _ _ from r2) p2 e3
    refine SeqAt.remove_list_data (vs := its.toArray) ⟨_, ho, rfl, _, rfl⟩ (show ReadsAll s.heap its.toArray.toList _ _ from r2) r1 p2 p1 hu' e3 (by rw [List.size_toArray]; omega) ?_
    refine ⟨.non, _, I.lset (t' := s.toks) (its' := its.eraseIdx j) h1 ho (by simp) (r.eraseIdx j) ?_, rfl, q.cell rs h3 h4 (h2.eraseIdx j) (by simp [RV])⟩
    exact Nat.le_trans (len_erase _ _) hz
  · cases e
/-! ### sep.join(texts) -/
def mJoin : OM := fun x as S => match x, as with
  | .str a, [y] => ((seqOf y S).bind strsOf).bind fun ys => if (ys.map (·.length)).sum + ys.length * a.length ≤ 16777216 then some (.str (Txt.join a ys), S) else none
  | _, _ => none
theorem mz_join : MtR X "str.join" (rOfM (yOf X T) mJoin) := by
  intro pins s σ H x vs v us Q I rx rv ⟨M, S, a, xs, z, S', rs, ra, rxs, e, q⟩
  unfold mJoin at e
  split at e
  · simp only [Option.bind_eq_some_iff] at e
    obtain ⟨ys, ⟨zs, e1, e2⟩, e3⟩ := e
    split at e3
    · rename_i hz
      cases e3
      cases rx_str ra
      obtain ⟨w, rfl, h5⟩ := rvs1 rxs
      obtain ⟨p, ws, rfl, h1, h2⟩ := rx_seq rs (RX.of h5) e1
      rw [strs_vs h2 e2] at h1
      exact mt_join pins s σ H _ _ v us Q I rx rv ⟨_, p, ys, rfl, rfl, h1, hz, q.str rs⟩
    · cases e3
  · cases e
end
end Z

set_option Elab.async false
set_option linter.all false
set_option maxRecDepth 100000
set_option maxHeartbeats 2000000
/-! # ZH: statements, targets, loops, comprehensions -/
namespace Z
open PySem PySem.Spec PyProof.Rows L2

inductive Fl where
  | nx (ρ : LEnv) | rt (x : PV) | bk (ρ : LEnv) | ct (ρ : LEnv)
abbrev DS := LEnv → Store → Res Fl
def OutS (Y : Ctx) (W : WX) (H : Hp) (M : Mp) (r : Res Fl) (D : Ends) : Prop := match r with
  | .ok (.nx ρ) S => ∀ M' H' σ', Nxt H M H' M' → RS Y H' M' S → RE Y H' M' ρ σ' → D.nx σ' H'
  | .ok (.rt x) S => ∀ M' H' v, Nxt H M H' M' → RS Y H' M' S → RX Y H' M' x v → Fr H x v → D.rt v H'
  | .ok (.bk ρ) S => ∀ M' H' σ', Nxt H M H' M' → RS Y H' M' S → RE Y H' M' ρ σ' → D.bk σ' H'
  | .ok (.ct ρ) S => ∀ M' H' σ', Nxt H M H' M' → RS Y H' M' S → RE Y H' M' ρ σ' → D.ct σ' H'
  | .err c o S => ∀ M' H' σ' cls d, Nxt H M H' M' → RS Y H' M' S → RExc Y H' M' c o cls d → W cls d σ' H'
  | .bad => False
def tOfS (Y : Ctx) (W : WX) (d : DS) : TS := fun D σ H => ∃ M ρ S, RS Y H M S ∧ RE Y H M ρ σ ∧ OutS Y W H M (d ρ S) D
abbrev ZS (X : Cx) (T : List (Addr × Str)) (W : WX) (st : Stmt) (d : DS) : Prop := PS X st (tOfS (yOf X T) W d)
abbrev ZSs (X : Cx) (T : List (Addr × Str)) (W : WX) (sts : List Stmt) (d : DS) : Prop := PSs X sts (tOfS (yOf X T) W d)
section
variable {Y : Ctx} {H H0 H1 H2 : Hp} {M M0 M1 M2 : Mp} {ρ : LEnv} {σ : L2.St} {S : Store} {W : WX} {D : Ends}
theorem OutS.pull {r : Res Fl} (h : OutS Y W H0 M0 r D) (n : Nxt H0 M0 H1 M1) : OutS Y W H1 M1 r D := by
  cases r with
  | ok f S =>
    cases f with
    | nx ρ => exact fun M' H' σ' n' rs re => h M' H' σ' (n.trans n') rs re
    | rt x => exact fun M' H' v n' rs rx fr => h M' H' v (n.trans n') rs rx (fr.pull n)
    | bk ρ => exact fun M' H' σ' n' rs re => h M' H' σ' (n.trans n') rs re
    | ct ρ => exact fun M' H' σ' n' rs re => h M' H' σ' (n.trans n') rs re
  | err c o S => exact fun M' H' σ' cls d n' rs rx => h M' H' σ' cls d (n.trans n') rs rx
  | bad => exact h
theorem gOutS : GK Y W σ (fun H M r => OutS Y W H M r D) := ⟨OutS.pull, fun h => h, fun h M' H' cls d n rs rx => h M' H' _ cls d n rs rx⟩
theorem OutS.go {r : Res Fl} (h : OutS Y W H M r D) : OutS Y W H M r D := h
end
def dSkip : DS := fun ρ S => .ok (.nx ρ) S
def dSeq (a b : DS) : DS := fun ρ S => (a ρ S).bind fun f S1 => match f with | .nx ρ1 => b ρ1 S1 | f => .ok f S1
def dRet (d : DE) : DS := fun ρ S => (d ρ S).bind fun x S1 => .ok (.rt x) S1
def dRetN : DS := fun _ S => .ok (.rt .non) S
def dDrop (d : DE) : DS := fun ρ S => (d ρ S).bind fun _ S1 => .ok (.nx ρ) S1
def dIfS (t : DT) (a b : DS) : DS := fun ρ S => (t ρ S).bind fun k S1 => if k = true then a ρ S1 else b ρ S1
def dBreak : DS := fun ρ S => .ok (.bk ρ) S
def dCont : DS := fun ρ S => .ok (.ct ρ) S
/-- name = e -/
def dSet (i : Nat) (d : DE) : DS := fun ρ S => (d ρ S).bind fun x S1 => (bnd x S1).bind fun y S2 => .ok (.nx (ρ.set i (some y))) S2
section
variable {X : Cx} {T : List (Addr × Str)} {W : WX} {a b c e : Expr} {da db dc d : DE} {ta tb : DT} {pos : Pos} {st : Stmt} {rest : List Stmt} {u w : DS}
theorem outS_nx {σ : L2.St} {H : Hp} {M : Mp} {S : Store} {ρ : LEnv} {D : Ends} (rs : RS (yOf X T) H M S) (re : RE (yOf X T) H M ρ σ) (h : OutS (yOf X T) W H M (.ok (.nx ρ) S) D) : D.nx σ H := h M H σ Nxt.refl rs re
theorem zss_nil : ZSs X T W [] dSkip := by
  refine ⟨fun pins s σ H D I ⟨M, ρ, S, rs, re, h⟩ => pss_nil.run pins s σ H D I (outS_nx rs re h)⟩
theorem zss_cons (h1 : ZS X T W st u) (h2 : ZSs X T W rest w) : ZSs X T W (st :: rest) (dSeq u w) :=
  (pss_cons h1 h2).imp fun D σ H ⟨M, ρ, S, rs, re, h⟩ => by
    refine ⟨M, ρ, S, rs, re, ?_⟩
    unfold dSeq at h
    cases e : u ρ S with
    | ok f S1 =>
      rw [e] at h
      cases f with
      | nx ρ1 => exact fun M' H' σ' n' rs' re' => ⟨M', ρ1, S1, rs', re', OutS.pull h n'⟩
      | rt x => exact h
      | bk x => exact h
      | ct x => exact h
    | err c o S1 => rw [e] at h; exact h
    | bad => rw [e] at h; exact h
theorem zss_one (h1 : ZS X T W st u) : ZSs X T W [st] u := pss_one h1
theorem zs_pass : ZS X T W (.Pass pos) dSkip := ps_pass.imp fun D σ H ⟨M, ρ, S, rs, re, h⟩ => outS_nx rs re h
theorem zs_doc {x j pos'} : ZS X T W (.Expr (.Constant (.str x) j pos) pos') dSkip := ps_doc.imp fun D σ H ⟨M, ρ, S, rs, re, h⟩ => outS_nx rs re h
theorem zs_break : ZS X T W (.Break pos) dBreak := ps_break.imp fun D σ H ⟨M, ρ, S, rs, re, h⟩ => h M H σ Nxt.refl rs re
theorem zs_cont : ZS X T W (.Continue pos) dCont := ps_continue.imp fun D σ H ⟨M, ρ, S, rs, re, h⟩ => h M H σ Nxt.refl rs re
theorem zs_ret (h : ZE X T W e d) : ZS X T W (.Return (some e) pos) (dRet d) := (ps_ret h).imp fun D σ H ⟨M, ρ, S, rs, re, h⟩ => by
  refine ⟨M, ρ, S, rs, re, ?_⟩
  unfold dRet at h
  cases e : d ρ S with
  | ok x S1 => rw [e] at h; exact h
  | err c o S1 => rw [e] at h; exact fun M' H' cls dd n rs rx => h M' H' σ cls dd n rs rx
  | bad => rw [e] at h; exact h
theorem zs_retN : ZS X T W (.Return none pos) dRetN := ps_retN.imp fun D σ H ⟨M, ρ, S, rs, re, h⟩ => h M H .non Nxt.refl rs (RX.of (by simp [RV])) True.intro
theorem zs_expr (h : ZE X T W e d) (hs : swapsWith e none pos.line X.env = pure false := by rfl) : ZS X T W (.Expr e pos) (dDrop d) := (ps_expr h hs).imp fun D σ H ⟨M, ρ, S, rs, re, h⟩ => by
  refine step gOutS rs re h fun M1 S1 x v H1 n1 rs1 re1 rx1 fr1 _ h1 => ?_
  exact h1 M1 H1 σ Nxt.refl rs1 re1
theorem zs_if {p q : List Stmt} (hc : ZT X T W c ta) (hp : ZSs X T W p u) (hq : ZSs X T W q w) : ZS X T W (.If c p q pos) (dIfS ta u w) := (ps_if hc hp hq).imp fun D σ H ⟨M, ρ, S, rs, re, h⟩ => by
  refine stepT gOutS rs re h fun M1 S1 k H1 n1 rs1 re1 e h1 => ?_
  cases k with
  | true => exact ⟨M1, ρ, S1, rs1, re1, h1⟩
  | false => exact ⟨M1, ρ, S1, rs1, re1, h1⟩
theorem set_out {i : Nat} {D : Ends} {σ : L2.St} {H : Hp} {M : Mp} {ρ : LEnv} {S : Store} (rs : RS (yOf X T) H M S) (re : RE (yOf X T) H M ρ σ) (h : OutS (yOf X T) W H M (dSet i d ρ S) D) : tOf (yOf X T) W d σ H fun x H1 => gName i x σ H1 D.nx := by
  refine ⟨M, ρ, S, rs, re, ?_⟩
  unfold dSet at h
  cases e : d ρ S with
  | bad => rw [e] at h; exact h
  | err c o S1 => rw [e] at h; exact fun M' H' cls dd n rs rx => h M' H' σ cls dd n rs rx
  | ok x S1 =>
    rw [e] at h
    intro M' H' v n rs' rx fr
    obtain ⟨y, S2, M2, eb, n2, rs2, ry⟩ := bnd_ok n rs' rx fr
    have h : OutS (yOf X T) W H M ((bnd x S1).bind fun y S2 => .ok (.nx (ρ.set i (some y))) S2) D := h
    rw [eb] at h
    exact h M2 H' _ n2 rs2 ((re.nxt n2).set ry i)
theorem zs_set {i : Nat} {x : Str} {pos' : Pos} (hN : X.N.Nodup) (hi : X.N[i]? = some x) (hx : Loc X.env.scope x) (he : ZE X T W e d) (hs : swapsWith e (some (.Name x pos')) pos.line X.env = pure false := by rfl) (hf : X.fn x = true ∨ X.env.scope.names.lookup x = some .local := by first | exact .inl rfl | exact .inr rfl | assumption) :
    ZS X T W (.Assign [.Name x pos'] e pos) (dSet i d) := (ps_set hN hi hx he hs hf).imp fun D σ H ⟨M, ρ, S, rs, re, h⟩ => set_out rs re h

/-! ### two names at once -/
def dPar (i j : Nat) (r : DA) : DS := fun ρ S => (r ρ S).bind fun xs S1 => match xs with | [x, y] => .ok (.nx ((ρ.set i (some x)).set j (some y))) S1 | _ => .bad
theorem zs_par {i j : Nat} {x y : Str} {r : DA} {px py pt : Pos} {kt k2 pt2} (hc : X.calm = true) (hN : X.N.Nodup) (hi : X.N[i]? = some x) (hj : X.N[j]? = some y) (hij : i ≠ j)
    (hx : X.env.scope.names.lookup x = some .local) (hy : X.env.scope.names.lookup y = some .local) (ha : ZA X T W [a, b] r)
    (hw : swappedStores [.Tuple [.Name x px, .Name y py] kt pt] (.Tuple [a, b] k2 pt2) X.env = pure (some [x, y]))
    (hs : swapsWithSole [.Tuple [.Name x px, .Name y py] kt pt] (.Tuple [a, b] k2 pt2) pos.line X.env = pure false := by rfl) :
    ZS X T W (.Assign [.Tuple [.Name x px, .Name y py] kt pt] (.Tuple [a, b] k2 pt2) pos) (dPar i j r) := (ps_par hc hN hi hj hij hx hy ha hw hs).imp fun D σ H ⟨M, ρ, S, rs, re, h⟩ => by
  refine stepA gOutS rs re h fun M1 S1 xs vs H1 n1 rs1 re1 rx1 _ h1 => ?_
  split at h1
  · rename_i p q
    obtain ⟨v, vr, rfl, h2, h3⟩ := rx1
    obtain ⟨w, rfl, h4⟩ := rvs1 h3
    exact ⟨v, w, rfl, h1 M1 H1 _ Nxt.refl rs1 ((re1.set h2 i).set h4 j)⟩
  · exact h1.elim

/-! ### targets of loops -/
/-- how an item that a loop yields is borne: plainly; or (zip, enumerate) as a new pair of unknown kind -/
def RT (Y : Ctx) : Bool → Hp → Mp → PV → V → Prop
  | false => RV Y
  | true => fun H M x v => ∃ xs p vs, x = .tup xs ∧ v = .ref p ∧ SqT Y.K H p vs ∧ RVs Y H M xs vs
abbrev DG := PV → LEnv → Option LEnv
abbrev DGs := List PV → LEnv → Option LEnv
def GSame (is : List Nat) (σ σ' : L2.St) : Prop := ∀ vs : List Nat, (∀ i ∈ is, i ∈ vs) → wipe σ' vs = wipe σ vs
def tOfG (Y : Ctx) (k : Bool) (g : DG) (is : List Nat) : TG := fun v σ H Q => ∃ M ρ x ρ', RE Y H M ρ σ ∧ RT Y k H M x v ∧ g x ρ = some ρ' ∧ ∀ σ', RE Y H M ρ' σ' → GSame is σ σ' → Q σ' H
def tOfGs (Y : Ctx) (g : DGs) (is : List Nat) : TGs := fun vs σ H Q => ∃ M ρ xs ρ', RE Y H M ρ σ ∧ RVs Y H M xs vs ∧ g xs ρ = some ρ' ∧ ∀ σ', RE Y H M ρ' σ' → GSame is σ σ' → Q σ' H
abbrev ZG (X : Cx) (T : List (Addr × Str)) (k : Bool) (tg : Expr) (g : DG) (is : List Nat) : Prop := PG X tg (tOfG (yOf X T) k g is)
structure ZGs (X : Cx) (T : List (Addr × Str)) (n : Nat) (tg : List Expr) (g : DGs) (is : List Nat) : Prop where
  pgs : PGs X tg (tOfGs (yOf X T) g is)
  len : ∀ xs ρ ρ', g xs ρ = some ρ' → xs.length = n
theorem wipe_set (σ : L2.St) (i : Nat) (v : Option V) : ∀ vs : List Nat, wipe (σ.set i v) vs = if i ∈ vs then wipe σ vs else (wipe σ vs).set i v
  | [] => by simp [wipe]
  | w :: vs => by
    show (wipe (σ.set i v) vs).set w none = _
    rw [wipe_set σ i v vs]
    by_cases h : i ∈ vs
    · rw [if_pos h, if_pos (List.mem_cons_of_mem _ h)]; rfl
    · rw [if_neg h]
      by_cases hw : i = w
      · subst hw
        rw [if_pos List.mem_cons_self, List.set_set]; rfl
      · rw [if_neg (by simp [hw, h]), List.set_comm _ _ hw]; rfl
theorem GSame.set {σ : L2.St} {i : Nat} {v : Option V} : GSame [i] σ (σ.set i v) := fun vs h => by rw [wipe_set, if_pos (h i List.mem_cons_self)]
theorem GSame.trans {σ1 σ2 σ3 : L2.St} {is js : List Nat} (h1 : GSame is σ1 σ2) (h2 : GSame js σ2 σ3) : GSame (is ++ js) σ1 σ3 := fun vs h =>
  (h2 vs fun i hi => h i (List.mem_append_right _ hi)).trans (h1 vs fun i hi => h i (List.mem_append_left _ hi))
def gSet (i : Nat) : DG := fun x ρ => some (ρ.set i (some x))
theorem zg_name {i : Nat} {x : Str} (hN : X.N.Nodup) (hi : X.N[i]? = some x) (hx : Loc X.env.scope x) (hf : X.fn x = true ∨ X.env.scope.names.lookup x = some .local := by first | exact .inl rfl | exact .inr rfl | assumption) : ZG X T false (.Name x pos) (gSet i) [i] :=
  ⟨fun pins s σ H v u Q I r ⟨M, ρ, x, ρ', re, rx, e, h⟩ => (pg_name hN hi hx hf).run pins s σ H v u Q I r (by
    cases e
    exact h _ (re.set rx i) GSame.set)⟩
def gNon : DGs := fun xs ρ => match xs with | [] => some ρ | _ => none
def gAnd (g : DG) (r : DGs) : DGs := fun xs ρ => match xs with | x :: xs => (g x ρ).bind (r xs) | _ => none
theorem zgs_nil : ZGs X T 0 [] gNon [] := ⟨⟨fun pins s σ H vs us Q I r ⟨M, ρ, xs, ρ', re, rx, e, h⟩ => pgs_nil.run pins s σ H vs us Q I r (by
  cases xs with
  | nil => cases e; simp only [RVs] at rx; exact ⟨rx, h _ re fun _ _ => rfl⟩
  | cons _ _ => cases e)⟩, fun xs ρ ρ' e => by cases xs with | nil => rfl | cons _ _ => cases e⟩
theorem zgs_cons {es : List Expr} {g : DG} {r : DGs} {is js : List Nat} {n : Nat} (h1 : ZG X T false e g is) (h2 : ZGs X T n es r js)
    (hs : (assignEach (e :: es) X.env).map (·.2) = assign e X.env :: (assignEach es X.env).map (·.2) := by rfl) : ZGs X T (n + 1) (e :: es) (gAnd g r) (is ++ js) := by
  refine ⟨⟨fun pins s σ H vs us Q I rr ⟨M, ρ, xs, ρ', re, rx, ee, h⟩ => (pgs_cons h1 h2.pgs hs).run pins s σ H vs us Q I rr ?_⟩, fun xs ρ ρ' ee => ?_⟩
  · cases xs with
    | nil => cases ee
    | cons x xs =>
      simp only [RVs] at rx
      obtain ⟨v, vr, rfl, rx1, rx2⟩ := rx
      simp only [gAnd, Option.bind_eq_some_iff] at ee
      obtain ⟨ρ1, e1, e2⟩ := ee
      exact ⟨v, vr, rfl, M, ρ, x, ρ1, re, rx1, e1, fun σ1 re1 g1 => ⟨M, ρ1, xs, ρ', re1, rx2, e2, fun σ2 re2 g2 => h σ2 re2 (g1.trans g2)⟩⟩
  · cases xs with
    | nil => cases ee
    | cons x xs =>
      simp only [gAnd, Option.bind_eq_some_iff] at ee
      obtain ⟨ρ1, e1, e2⟩ := ee
      simp [h2.len _ _ _ e2]
def gTupZ (r : DGs) : DG := fun x ρ => match x with | .tup xs => r xs ρ | _ => none
theorem zg_tup {k : Bool} {es : List Expr} {kk : Nat} {r : DGs} {is : List Nat} {n : Nat} (hc : X.calm = true) (h : ZGs X T n es r is)
    (hn : (assignEach es X.env).length = n := by rfl) (hst : (assignEach es X.env).findIdx? (·.1) = none := by rfl) : ZG X T k (.Tuple es kk pos) (gTupZ r) is :=
  ⟨fun pins s σ H v u Q I rr ⟨M, ρ, x, ρ', re, rx, e, hq⟩ => (pg_tup hc h.pgs hn hst).run pins s σ H v u Q I rr (by
    unfold gTupZ at e
    split at e
    · rename_i xs
      have hl := h.len _ _ _ e
      cases k with
      | false =>
        obtain ⟨a, vs, rfl, h1, h2⟩ := rx_tup (RX.of rx)
        exact ⟨a, vs, rfl, h1.sqt, by rw [h2.length, hl], M, ρ, xs, ρ', re, h2, e, hq⟩
      | true =>
        obtain ⟨ys, p, vs, e1, rfl, h1, h2⟩ := rx
        cases e1
        exact ⟨p, vs, rfl, h1, by rw [h2.length, hl], M, ρ, _, ρ', re, h2, e, hq⟩
    · cases e)⟩
/-- (a, b, ..) = e -/
def dAsg (g : DG) (d : DE) : DS := fun ρ S => (d ρ S).bind fun x S1 => match g x ρ with | some ρ' => .ok (.nx ρ') S1 | none => .bad
theorem zs_asg {es : List Expr} {kk : Nat} {g : DG} {is : List Nat} {tp : Pos} (hg : ZG X T false (.Tuple es kk tp) g is) (hb : ∀ x ρ ρ', g x ρ = some ρ' → ∃ ys, x = .tup ys) (he : ZE X T W e d) (hs : swapsWithSole [.Tuple es kk tp] e pos.line X.env = pure false := by rfl) (hw : swappedStores [.Tuple es kk tp] e X.env = pure none := by rfl)
    (h1 : (assignEach [.Tuple es kk tp] X.env).map (·.2) = [assign (.Tuple es kk tp) X.env] := by rfl) : ZS X T W (.Assign [.Tuple es kk tp] e pos) (dAsg g d) :=
  (ps_asg he hg hs hw h1).imp fun D σ H ⟨M, ρ, S, rs, re, h⟩ => by
    refine step gOutS rs re h fun M1 S1 x v H1 n1 rs1 re1 rx1 fr1 _ h2 => ?_
    cases e1 : g x ρ with
    | none => rw [e1] at h2; exact h2.elim
    | some ρ' =>
      rw [e1] at h2
      obtain ⟨ys, rfl⟩ := hb _ _ _ e1
      exact ⟨M1, ρ, _, ρ', re1, rx1, e1, fun σ' re' _ => h2 M1 H1 σ' Nxt.refl rs1 re'⟩
theorem gTupZ_tup {r : DGs} : ∀ x ρ ρ', gTupZ r x ρ = some ρ' → ∃ ys, x = .tup ys := fun x ρ ρ' e => by
  unfold gTupZ at e
  split at e
  · exact ⟨_, rfl⟩
  · cases e

/-! ### what a loop walks -/
abbrev SF := Store → Option (List PV)
abbrev DI := LEnv → Store → Res SF
structure SrcOk (Y : Ctx) (k : Bool) (J : It) (f : SF) (G : Hp → Mp → Prop) : Prop where
  nxt : ∀ {H M H1 M1}, G H M → Nxt H M H1 M1 → G H1 M1
  go : ∀ {H M S xs i x}, RS Y H M S → G H M → f S = some xs → xs[i]? = some x → J.go i H ∧ ∀ v H', J.yld i H v H' → Same H H' ∧ RT Y k H' M x v
  stop : ∀ {H M S xs i}, RS Y H M S → G H M → f S = some xs → xs.length = i → J.stop i H
def OutI (Y : Ctx) (W : WX) (k : Bool) (σ : L2.St) (H : Hp) (M : Mp) (r : Res SF) (Q : It → Hp → Prop) : Prop := match r with
  | .ok f S => ∀ M' H' J G, Nxt H M H' M' → RS Y H' M' S → SrcOk Y k J f G → G H' M' → Q J H'
  | .err c o S => ∀ M' H' cls d, Nxt H M H' M' → RS Y H' M' S → RExc Y H' M' c o cls d → W cls d σ H'
  | .bad => False
def tOfI (Y : Ctx) (W : WX) (k : Bool) (d : DI) : TI := fun σ H Q => ∃ M ρ S, RS Y H M S ∧ RE Y H M ρ σ ∧ OutI Y W k σ H M (d ρ S) Q
abbrev ZI (X : Cx) (T : List (Addr × Str)) (W : WX) (k : Bool) (tg e : Expr) (d : DI) : Prop := PI X tg e (tOfI (yOf X T) W k d)
theorem _root_.L2.PI.imp {X : Cx} {tg e : Expr} {t t' : TI} (h : PI X tg e t) (i : ∀ σ H Q, t' σ H Q → t σ H Q) : PI X tg e t' := ⟨fun pins s σ H Q I q => h.run pins s σ H Q I (i σ H Q q)⟩
theorem OutI.pull {Y : Ctx} {k : Bool} {σ : L2.St} {H0 H1 : Hp} {M0 M1 : Mp} {r : Res SF} {Q : It → Hp → Prop} (h : OutI Y W k σ H0 M0 r Q) (n : Nxt H0 M0 H1 M1) : OutI Y W k σ H1 M1 r Q := by
  cases r with
  | ok x S => exact fun M' H' J G n' rs s g => h M' H' J G (n.trans n') rs s g
  | err c o S => exact fun M' H' cls d n' rs rx => h M' H' cls d (n.trans n') rs rx
  | bad => exact h
theorem gOutI {Y : Ctx} {k : Bool} {σ : L2.St} {Q : It → Hp → Prop} : GK Y W σ (fun H M r => OutI Y W k σ H M r Q) := ⟨OutI.pull, fun h => h, fun h => h⟩
theorem stepI {Y : Ctx} {k : Bool} {σ : L2.St} {H : Hp} {M : Mp} {S : Store} {ρ : LEnv} {α : Type} {GG : Hp → Mp → Res α → Prop} (g : GK Y W σ GG) {d : DI} {kk : SF → Store → Res α} {Q : It → Hp → Prop} (rs : RS Y H M S) (re : RE Y H M ρ σ) (h : GG H M ((d ρ S).bind kk))
    (f : ∀ M1 S1 sf J G H1, Nxt H M H1 M1 → RS Y H1 M1 S1 → RE Y H1 M1 ρ σ → SrcOk Y k J sf G → G H1 M1 → d ρ S = .ok sf S1 → GG H1 M1 (kk sf S1) → Q J H1) : tOfI Y W k d σ H Q := by
  refine ⟨M, ρ, S, rs, re, ?_⟩
  cases e : d ρ S with
  | ok x S1 =>
    rw [e] at h
    exact fun M' H' J G n rs' so gg => f M' S1 x J G H' n rs' (re.nxt n) so gg e (g.pull h n)
  | err c o S1 => rw [e] at h; exact g.err h
  | bad => rw [e] at h; exact (g.bad h).elim
/-- a list or a tuple -/
def iSeq (d : DE) : DI := fun ρ S => (d ρ S).bind fun x S1 => match seqOf x S1 with | some _ => .ok (seqOf x) S1 | none => .bad
theorem zi_seq (h : ZE X T W e d) {tg : Expr} : ZI X T W false tg e (iSeq d) := by
  refine ⟨fun pins s σ H R I ⟨M, ρ, S, rs, re, hh⟩ => ?_⟩
  have key : tOf (yOf X T) W d σ H fun v H1 => (∃ a, v = .ref a ∧ (∃ xs, SqL X.K H1 a xs) ∧ R (Itl X.K a) H1) ∨ (∃ a, v = .ref a ∧ (∃ xs, SqT X.K H1 a xs) ∧ R (Itt X.K a) H1) := by
    refine step gOutI rs re hh fun M1 S1 x v H1 n1 rs1 re1 rx1 fr1 _ h1 => ?_
    split at h1
    · rename_i xs hx
      obtain ⟨a, vs, rfl, h2, h3⟩ := rx_seq rs1 rx1 hx
      by_cases ht : isT .tuple x = some true
      · have : x = .tup xs := by
          cases x with
          | tup zs => cases hx; rfl
          | ref k n => cases k <;> simp [isT] at ht
          | _ => simp [isT] at ht
        subst this
        obtain ⟨p, ws, e1, h4, h5⟩ := rx_tup rx1
        cases e1
        refine .inr ⟨a, rfl, ⟨ws, h4.sqt⟩, h1 M1 H1 _ (fun H M => RX (yOf X T) H M (.tup xs) (.ref a)) Nxt.refl rs1 ⟨fun r n => r.nxt n, ?_, ?_⟩ rx1⟩
        · intro H M S ys i y rs r e1 e2
          cases e1
          obtain ⟨p, ws, e3, h4, h5⟩ := rx_tup r
          cases e3
          obtain ⟨w, e4, h6⟩ := h5.get e2
          refine ⟨⟨ws, w, h4.sqt, e4⟩, fun v H' ⟨e5, e6⟩ => ?_⟩
          subst e5
          have := e6 _ h4.sqt
          rw [e4] at this; cases this
          exact ⟨fun _ _ e => e, h6⟩
        · intro H M S ys i rs r e1 hl
          cases e1
          obtain ⟨p, ws, e3, h4, h5⟩ := rx_tup r
          cases e3
          exact ⟨ws, h4.sqt, by rw [h5.length]; exact Nat.le_of_eq hl⟩
      · have hl : ∀ S, seqOf x S = lstOf x S := fun S => by
          cases x with
          | tup zs => exact absurd rfl ht
          | _ => rfl
        rw [hl] at hx
        obtain ⟨p, ws, e1, h4, h5⟩ := rx_lst rs1 rx1 hx
        cases e1
        refine .inl ⟨a, rfl, ⟨ws, h4⟩, h1 M1 H1 _ (fun H M => RX (yOf X T) H M x (.ref a)) Nxt.refl rs1 ⟨fun r n => r.nxt n, ?_, ?_⟩ rx1⟩
        · intro H M S ys i y rs r e1 e2
          rw [hl] at e1
          obtain ⟨p, ws, e3, h4, h5⟩ := rx_lst rs r e1
          cases e3
          obtain ⟨w, e4, h6⟩ := h5.get e2
          refine ⟨⟨ws, w, h4, e4⟩, fun v H' ⟨e5, e6⟩ => ?_⟩
          subst e5
          have := e6 _ h4
          rw [e4] at this; cases this
          exact ⟨fun _ _ e => e, h6⟩
        · intro H M S ys i rs r e1 hl'
          rw [hl] at e1
          obtain ⟨p, ws, e3, h4, h5⟩ := rx_lst rs r e1
          cases e3
          exact ⟨ws, h4, by rw [h5.length]; exact Nat.le_of_eq hl'⟩
    · exact h1.elim
  refine thn (h.run pins s σ H _ I key) fun v s1 ⟨x, H1, I1, r1, q1⟩ => ?_
  rcases q1 with ⟨a, rfl, ⟨xs, hq⟩, q⟩ | ⟨a, rfl, ⟨xs, hq⟩, q⟩
  · cases r1
    obtain ⟨its, rv, p, hz⟩ := I1.list hq
    refine wpAny_pyIter_list p.isList ?_
    refine ⟨s1.heap.objs.size, [s1.heap.objs.size], _, _, H1, rfl, I1.kept (t' := s1.toks) fun b o e => Heap.get?_push_of_some _ e, turn_list a _, ⟨_, Heap.get?_push_size _ rfl, rfl, rfl⟩, fun b hb => ?_, q⟩
    have e : b = s1.heap.objs.size := by simpa using hb
    subst e
    exact I1.fpOk (Nat.le_refl _) (I1.hok.fresh (Nat.le_refl _))
  · cases r1
    obtain ⟨its, rv, p, hz⟩ := I1.tuple hq
    refine wpAny_pyIter_tuple (show s1.heap.IsTuple a its.toArray from p) ?_
    refine ⟨s1.heap.objs.size, [s1.heap.objs.size], _, _, H1, rfl, I1.kept (t' := s1.toks) fun b o e => Heap.get?_push_of_some _ e, turn_tuple a _, ⟨_, Heap.get?_push_size _ rfl, rfl, rfl⟩, fun b hb => ?_, q⟩
    have e : b = s1.heap.objs.size := by simpa using hb
    subst e
    exact I1.fpOk (Nat.le_refl _) (I1.hok.fresh (Nat.le_refl _))
/-- range -/
def rngL (lo : Int) (n : Nat) : List PV := (List.range n).map fun (i : Nat) => PV.int (lo + (i : Int))
theorem src_range {Y : Ctx} {lo : Int} {n : Nat} : SrcOk Y false (Itr lo n) (fun _ => some (rngL lo n)) (fun _ _ => True) where
  nxt := fun _ _ => True.intro
  go := fun {H M S xs i x} rs _ e e2 => by
    cases e
    have hi : i < n := by
      have := (List.getElem?_eq_some_iff.mp e2).1
      simpa [rngL] using this
    refine ⟨hi, fun v H' ⟨e3, e4⟩ => ?_⟩
    subst e3 e4
    refine ⟨fun _ _ e => e, ?_⟩
    simp [rngL, hi] at e2
    subst e2
    simp [RT, RV]
  stop := fun {H M S xs i} rs _ e hl => by
    cases e
    show n ≤ i
    exact Nat.le_of_eq (by simpa [rngL] using hl)
def iRan1 (r : DA) : DI := fun ρ S => (r ρ S).bind fun xs S1 => match xs with
  | [.int j] => if -(2 ^ 62) ≤ j ∧ j < 2 ^ 62 then .ok (fun _ => some (rngL 0 j.toNat)) S1 else .bad
  | _ => .bad
def iRan2 (r : DA) : DI := fun ρ S => (r ρ S).bind fun xs S1 => match xs with
  | [.int i, .int j] => if -(2 ^ 62) ≤ i ∧ i < 2 ^ 62 ∧ -(2 ^ 62) ≤ j ∧ j < 2 ^ 62 then .ok (fun _ => some (rngL i (j - i).toNat)) S1 else .bad
  | _ => .bad
theorem zi_range1 {r : DA} {tg : Expr} {p : Pos} (hg : Gl X "range") (hm : X.mg "range" = none) (ha : ZA X T W [a] r) (hs : starEach [a] X.env = [(false, eval a X.env)] := by rfl) : ZI X T W false tg (.Call (.Name "range" p) [a] [] pos) (iRan1 r) :=
  (pi_range1 hg hm ha hs).imp fun σ H R ⟨M, ρ, S, rs, re, hh⟩ => by
    refine stepA gOutI rs re hh fun M1 S1 xs vs H1 n1 rs1 re1 rx1 _ h1 => ?_
    split at h1
    · split at h1
      · rename_i hc
        obtain ⟨w, rfl, h2⟩ := rvs1 rx1
        simp only [RV] at h2
        subst h2
        exact ⟨_, rfl, hc.1, hc.2, h1 M1 H1 _ _ Nxt.refl rs1 src_range True.intro⟩
      · exact h1.elim
    · exact h1.elim
theorem zi_range2 {r : DA} {tg : Expr} {p : Pos} (hg : Gl X "range") (hm : X.mg "range" = none) (ha : ZA X T W [a, b] r) (hs : starEach [a, b] X.env = [(false, eval a X.env), (false, eval b X.env)] := by rfl) (hs2 : starEach [b] X.env = [(false, eval b X.env)] := by rfl) : ZI X T W false tg (.Call (.Name "range" p) [a, b] [] pos) (iRan2 r) :=
  (pi_range2 hg hm ha hs hs2).imp fun σ H R ⟨M, ρ, S, rs, re, hh⟩ => by
    refine stepA gOutI rs re hh fun M1 S1 xs vs H1 n1 rs1 re1 rx1 _ h1 => ?_
    split at h1
    · split at h1
      · rename_i hc
        obtain ⟨v, w, rfl, h2, h3⟩ := rvs2 rx1
        simp only [RV] at h2 h3
        subst h2 h3
        exact ⟨_, _, rfl, hc, h1 M1 H1 _ _ Nxt.refl rs1 src_range True.intro⟩
      · exact h1.elim
    · exact h1.elim
/-- the signs of a text -/
def chars (s : Str) : List PV := s.cps.toList.map fun c => PV.str ⟨#[c]⟩
def iChr (d : DE) : DI := fun ρ S => (d ρ S).bind fun x S1 => match x with | .str s => .ok (fun _ => some (chars s)) S1 | _ => .bad
theorem src_str {Y : Ctx} {s : Str} : SrcOk Y false (Its s) (fun _ => some (chars s)) (fun _ _ => True) where
  nxt := fun _ _ => True.intro
  go := fun {H M S xs i x} rs _ e e2 => by
    cases e
    have hi : i < s.cps.size := by
      have := (List.getElem?_eq_some_iff.mp e2).1
      simpa [chars] using this
    refine ⟨hi, fun v H' ⟨e3, c, e4, e5⟩ => ?_⟩
    subst e3 e5
    refine ⟨fun _ _ e => e, ?_⟩
    simp only [chars, List.getElem?_map, Option.map_eq_some_iff, Array.getElem?_toList] at e2
    obtain ⟨c', e6, rfl⟩ := e2
    rw [e4] at e6; cases e6
    simp [RT, RV]
  stop := fun {H M S xs i} rs _ e hl => by
    cases e
    show s.cps.size ≤ i
    exact Nat.le_of_eq (by simpa [chars] using hl)
theorem zi_str {tg : Expr} (he : ZE X T W e d) : ZI X T W false tg e (iChr d) := (pi_str he).imp fun σ H R ⟨M, ρ, S, rs, re, hh⟩ => by
  refine step gOutI rs re hh fun M1 S1 x v H1 n1 rs1 re1 rx1 fr1 _ h1 => ?_
  split at h1
  · exact ⟨_, rx_str rx1, h1 M1 H1 _ _ Nxt.refl rs1 src_str True.intro⟩
  · exact h1.elim
/-- a list, a tuple or a text -/
def iAny (d : DE) : DI := fun ρ S => (d ρ S).bind fun x S1 => match x with
  | .str s => .ok (fun _ => some (chars s)) S1
  | x => match seqOf x S1 with | some _ => .ok (seqOf x) S1 | none => .bad
theorem zi_any (h : ZE X T W e d) {tg : Expr} : ZI X T W false tg e (iAny d) := by
  refine ⟨fun pins s σ H R I ⟨M, ρ, S, rs, re, hh⟩ => ?_⟩
  by_cases hs : ∃ z S1, d ρ S = .ok (.str z) S1
  · obtain ⟨z, S1, e1⟩ := hs
    refine (zi_str (tg := tg) h).run pins s σ H R I ⟨M, ρ, S, rs, re, ?_⟩
    unfold iAny at hh
    unfold iChr
    rw [e1] at hh ⊢
    exact hh
  · refine (zi_seq (tg := tg) h).run pins s σ H R I ⟨M, ρ, S, rs, re, ?_⟩
    unfold iAny at hh
    unfold iSeq
    cases e1 : d ρ S with
    | bad => rw [e1] at hh; exact hh
    | err c o S1 => rw [e1] at hh; exact hh
    | ok x S1 =>
      rw [e1] at hh
      cases x with
      | str z => exact absurd ⟨z, S1, e1⟩ hs
      | _ => exact hh
/-- enumerate(list) -/
def enumL (xs : List PV) : List PV := xs.mapIdx fun (i : Nat) x => PV.tup [.int (i : Int), x]
def iEnuL (r : DA) : DI := fun ρ S => (r ρ S).bind fun xs S1 => match xs with
  | [x] => match lstOf x S1 with | some _ => .ok (fun S => (lstOf x S).map enumL) S1 | none => .bad
  | _ => .bad
theorem enumL_get {xs : List PV} {i : Nat} {x : PV} (h : (enumL xs)[i]? = some x) : ∃ y, xs[i]? = some y ∧ x = .tup [.int (i : Int), y] := by
  simp only [enumL, List.getElem?_mapIdx, Option.map_eq_some_iff] at h
  obtain ⟨y, h1, h2⟩ := h
  exact ⟨y, h1, h2.symm⟩
theorem src_enumL {Y : Ctx} {a : Addr} {x : PV} : SrcOk Y true (Ite Y.K a) (fun S => (lstOf x S).map enumL) (fun H M => RX Y H M x (.ref a)) where
  nxt := fun r n => r.nxt n
  go := fun {H M S ys i y} rs r e1 e2 => by
    simp only [Option.map_eq_some_iff] at e1
    obtain ⟨zs, e1, rfl⟩ := e1
    obtain ⟨p, ws, e3, h4, h5⟩ := rx_lst rs r e1
    cases e3
    obtain ⟨z, e4, rfl⟩ := enumL_get e2
    obtain ⟨w, e5, h6⟩ := h5.get e4
    refine ⟨⟨ws, w, h4, e5⟩, fun v H' ⟨t, x', e6, e7, e8, e9⟩ => ?_⟩
    subst e6 e8
    have := e9 _ h4
    rw [e5] at this; cases this
    refine ⟨same_upd e7, _, t, _, rfl, rfl, .inl (.inl upd_same), ?_⟩
    exact RVs.cons (by simp [RV]) (RVs.cons (h6.nxt (Nxt.same (same_upd e7))) RVs.nil)
  stop := fun {H M S ys i} rs r e1 hl' => by
    simp only [Option.map_eq_some_iff] at e1
    obtain ⟨zs, e1, rfl⟩ := e1
    obtain ⟨p, ws, e3, h4, h5⟩ := rx_lst rs r e1
    cases e3
    exact ⟨ws, h4, by rw [h5.length]; exact Nat.le_of_eq (by simpa [enumL] using hl')⟩
theorem zi_enumL {r : DA} {p tpos : Pos} {elts : List Expr} {kk : Nat} (hg : Gl X "enumerate") (hm : X.mg "enumerate" = none) (ha : ZX X T W [e] r) (hs : starEach [e] X.env = [(false, eval e X.env)] := by rfl) :
    ZI X T W true (.Tuple elts kk tpos) (.Call (.Name "enumerate" p) [e] [] pos) (iEnuL r) := (pi_enum hg hm ha hs).imp fun σ H R ⟨M, ρ, S, rs, re, hh⟩ => by
  refine stepX gOutI rs re hh fun M1 S1 xs vs H1 n1 rs1 re1 rx1 _ h1 => ?_
  split at h1
  · rename_i x
    split at h1
    · rename_i ys hy
      obtain ⟨v, rfl, h2⟩ := rxs1 rx1
      obtain ⟨p, ws, rfl, h4, h5⟩ := rx_lst rs1 h2 hy
      exact ⟨p, ws, rfl, h4, h1 M1 H1 _ _ Nxt.refl rs1 src_enumL h2⟩
    · exact h1.elim
  · exact h1.elim
/-- zip of two lists, of two tuples -/
def zipL (xs ys : List PV) : List PV := List.zipWith (fun x y => PV.tup [x, y]) xs ys
def bothLst (x y : PV) (S : Store) : Option (List PV) := match lstOf x S, lstOf y S with | some xs, some ys => some (zipL xs ys) | _, _ => none
def iZipZ (r : DA) : DI := fun ρ S => (r ρ S).bind fun xs S1 => match xs with
  | [.tup xs, .tup ys] => .ok (fun _ => some (zipL xs ys)) S1
  | [x, y] => match bothLst x y S1 with | some _ => .ok (bothLst x y) S1 | none => .bad
  | _ => .bad
theorem zipL_get {xs ys : List PV} {i : Nat} {x : PV} (h : (zipL xs ys)[i]? = some x) : ∃ y z, xs[i]? = some y ∧ ys[i]? = some z ∧ x = .tup [y, z] := by
  simp only [zipL, List.getElem?_zipWith] at h
  split at h
  · rename_i y z e1 e2
    exact ⟨y, z, e1, e2, (Option.some.inj h).symm⟩
  · cases h
theorem bothLst_some {x y : PV} {S : Store} {zs : List PV} (h : bothLst x y S = some zs) : ∃ xs ys, lstOf x S = some xs ∧ lstOf y S = some ys ∧ zs = zipL xs ys := by
  unfold bothLst at h
  split at h
  · rename_i xs ys e1 e2
    exact ⟨xs, ys, e1, e2, (Option.some.inj h).symm⟩
  · cases h
theorem src_zipL {Y : Ctx} {a b : Addr} {x y : PV} : SrcOk Y true (Itz Y.K a b) (bothLst x y) (fun H M => RX Y H M x (.ref a) ∧ RX Y H M y (.ref b)) where
  nxt := fun r n => ⟨r.1.nxt n, r.2.nxt n⟩
  go := fun {H M S ys i y} rs r e1 e2 => by
    obtain ⟨us, ws, e3, e4, rfl⟩ := bothLst_some e1
    obtain ⟨p, l1, e5, h4, h5⟩ := rx_lst rs r.1 e3
    cases e5
    obtain ⟨p, l2, e5, h6, h7⟩ := rx_lst rs r.2 e4
    cases e5
    obtain ⟨z1, z2, e6, e7, rfl⟩ := zipL_get e2
    obtain ⟨w1, e8, h8⟩ := h5.get e6
    obtain ⟨w2, e9, h9⟩ := h7.get e7
    refine ⟨⟨l1, l2, w1, w2, h4, h6, e8, e9⟩, fun v H' ⟨t, x', y', q1, q2, q3, q4, q5⟩ => ?_⟩
    subst q1 q3
    have := q4 _ h4
    rw [e8] at this; cases this
    have := q5 _ h6
    rw [e9] at this; cases this
    refine ⟨same_upd q2, _, t, _, rfl, rfl, .inl (.inl upd_same), ?_⟩
    exact RVs.cons (h8.nxt (Nxt.same (same_upd q2))) (RVs.cons (h9.nxt (Nxt.same (same_upd q2))) RVs.nil)
  stop := fun {H M S ys i} rs r e1 hl' => by
    obtain ⟨us, ws, e3, e4, rfl⟩ := bothLst_some e1
    obtain ⟨p, l1, e5, h4, h5⟩ := rx_lst rs r.1 e3
    cases e5
    obtain ⟨p, l2, e5, h6, h7⟩ := rx_lst rs r.2 e4
    cases e5
    refine ⟨l1, l2, h4, h6, ?_⟩
    rw [h5.length, h7.length]
    simp only [zipL, List.length_zipWith] at hl'
    omega
theorem src_zipT {Y : Ctx} {a b : Addr} {xs ys : List PV} : SrcOk Y true (RZ.ItzT Y.K a b) (fun _ => some (zipL xs ys)) (fun H M => RX Y H M (.tup xs) (.ref a) ∧ RX Y H M (.tup ys) (.ref b)) where
  nxt := fun r n => ⟨r.1.nxt n, r.2.nxt n⟩
  go := fun {H M S zs i z} rs r e1 e2 => by
    cases e1
    obtain ⟨p, l1, e5, h4, h5⟩ := rx_tup r.1
    cases e5
    obtain ⟨p, l2, e5, h6, h7⟩ := rx_tup r.2
    cases e5
    obtain ⟨z1, z2, e6, e7, rfl⟩ := zipL_get e2
    obtain ⟨w1, e8, h8⟩ := h5.get e6
    obtain ⟨w2, e9, h9⟩ := h7.get e7
    refine ⟨⟨l1, l2, w1, w2, h4.sqt, h6.sqt, e8, e9⟩, fun v H' ⟨t, x', y', q1, q2, q3, q4, q5⟩ => ?_⟩
    subst q1 q3
    have := q4 _ h4.sqt
    rw [e8] at this; cases this
    have := q5 _ h6.sqt
    rw [e9] at this; cases this
    refine ⟨same_upd q2, _, t, _, rfl, rfl, .inl (.inl upd_same), ?_⟩
    exact RVs.cons (h8.nxt (Nxt.same (same_upd q2))) (RVs.cons (h9.nxt (Nxt.same (same_upd q2))) RVs.nil)
  stop := fun {H M S zs i} rs r e1 hl' => by
    cases e1
    obtain ⟨p, l1, e5, h4, h5⟩ := rx_tup r.1
    cases e5
    obtain ⟨p, l2, e5, h6, h7⟩ := rx_tup r.2
    cases e5
    refine ⟨l1, l2, h4.sqt, h6.sqt, ?_⟩
    rw [h5.length, h7.length]
    simp only [zipL, List.length_zipWith] at hl'
    omega
theorem zi_zip {e2 : Expr} {r : DA} {p tpos : Pos} {elts : List Expr} {kk : Nat} (hg : Gl X "zip") (hm : X.mg "zip" = none) (ha : ZX X T W [e, e2] r)
    (hs : starEach [e, e2] X.env = (false, eval e X.env) :: starEach [e2] X.env := by rfl) (hpl : (backTo pos (starEach [e2] X.env)).any (·.1) = false := by rfl) :
    ZI X T W true (.Tuple elts kk tpos) (.Call (.Name "zip" p) [e, e2] [] pos) (iZipZ r) := (RZ.pi_zipA hg hm ha hs hpl).imp fun σ H R ⟨M, ρ, S, rs, re, hh⟩ => by
  refine stepX gOutI rs re hh fun M1 S1 xs vs H1 n1 rs1 re1 rx1 _ h1 => ?_
  split at h1
  · obtain ⟨v, w, rfl, h2, h3⟩ := rxs2 rx1
    obtain ⟨p, l1, rfl, h4, h5⟩ := rx_tup h2
    obtain ⟨q, l2, rfl, h6, h7⟩ := rx_tup h3
    exact ⟨p, q, l1, l2, rfl, .inr ⟨h4.sqt, h6.sqt, h1 M1 H1 _ _ Nxt.refl rs1 src_zipT ⟨h2, h3⟩⟩⟩
  · split at h1
    · rename_i zs hz
      obtain ⟨us, ws, e3, e4, rfl⟩ := bothLst_some hz
      obtain ⟨v, w, rfl, h2, h3⟩ := rxs2 rx1
      obtain ⟨p, l1, rfl, h4, h5⟩ := rx_lst rs1 h2 e3
      obtain ⟨q, l2, rfl, h6, h7⟩ := rx_lst rs1 h3 e4
      exact ⟨p, q, l1, l2, rfl, .inl ⟨h4, h6, h1 M1 H1 _ _ Nxt.refl rs1 src_zipL ⟨h2, h3⟩⟩⟩
    · exact h1.elim
  · exact h1.elim
end
end Z

set_option Elab.async false
set_option linter.all false
set_option maxRecDepth 100000
set_option maxHeartbeats 2000000
/-! # ZI: for, while, comprehensions -/
namespace Z
open PySem PySem.Spec PyProof.Rows L2

/-! ### for -/
open Classical in
noncomputable def forL (f : SF) (all : List PV) (g : DG) (b : DS) : List PV → LEnv → Store → Res Fl
  | [], ρ, S => if f S = some all then .ok (.nx ρ) S else .bad
  | x :: xs, ρ, S => if f S = some all then (match g x ρ with
      | none => .bad
      | some ρ1 => (b ρ1 S).bind fun fl S2 => match fl with
        | .nx ρ2 => forL f all g b xs ρ2 S2
        | .ct ρ2 => forL f all g b xs ρ2 S2
        | .bk ρ2 => .ok (.nx ρ2) S2
        | .rt v => .ok (.rt v) S2) else .bad
noncomputable def dFor (d : DI) (g : DG) (b : DS) : DS := fun ρ S => (d ρ S).bind fun f S1 => match f S1 with | none => .bad | some xs => forL f xs g b xs ρ S1
section
variable {X : Cx} {T : List (Addr × Str)} {W : WX} {a c e : Expr} {da db dc d : DE} {ta tb : DT} {pos : Pos} {st : Stmt} {rest : List Stmt} {u w b : DS}
theorem zs_for {tg iter : Expr} {body : List Stmt} {k : Bool} {di : DI} {g : DG} {is : List Nat} (hp : PassesOwn (model X.prog X.w) X.A X.env X.xe) (hc : X.calm = true) (hi : ZI X T W k tg iter di) (hg : ZG X T k tg g is) (hb : ZSs X T W body b)
    (hs : ∀ x, foldedSetIterable iter X.env x = pure x := by intro _; rfl) : ZS X T W (.For tg iter body [] pos) (dFor di g b) := (ps_for hp hc hi hg hb hs).imp fun D σ H ⟨M, ρ, S, rs, re, h⟩ => by
  refine stepI gOutS rs re h fun M1 S1 f J G H1 n1 rs1 re1 so gg _ h1 => ?_
  cases hx : f S1 with
  | none => simp only [hx] at h1; exact h1.elim
  | some xs =>
  simp only [hx] at h1
  refine ⟨fun i m σ H => m = xs.length - i ∧ i ≤ xs.length ∧ ∃ M ρ S, RS (yOf X T) H M S ∧ RE (yOf X T) H M ρ σ ∧ G H M ∧ OutS (yOf X T) W H M (forL f xs g b (xs.drop i) ρ S) D, ⟨xs.length, by simp, Nat.zero_le _, M1, ρ, S1, rs1, re1, gg, by simpa using h1⟩, ?_⟩
  rintro i m σ H ⟨rfl, hi, M, ρ, S, rs, re, gg, h⟩
  by_cases hlt : i < xs.length
  · right
    have hd : xs.drop i = xs[i] :: xs.drop (i + 1) := List.drop_eq_getElem_cons hlt
    rw [hd, forL] at h
    split at h
    · rename_i hf
      obtain ⟨hgo, hy⟩ := so.go rs gg hf (List.getElem?_eq_getElem hlt)
      refine ⟨hgo, fun σ' H' => ∃ M ρ S, RS (yOf X T) H' M S ∧ RE (yOf X T) H' M ρ σ' ∧ G H' M ∧ OutS (yOf X T) W H' M (forL f xs g b (xs.drop (i + 1)) ρ S) D,
        fun σ' H' ⟨M', ρ', S', q⟩ => ⟨xs.length - (i + 1), by omega, rfl, hlt, M', ρ', S', q⟩, fun x H' y => ?_⟩
      obtain ⟨sm, rt⟩ := hy x H' y
      have n := Nxt.same (M := M) sm
      split at h
      · exact h.elim
      · rename_i ρ1 hg1
        refine ⟨M, ρ, xs[i], ρ1, re.nxt n, rt, hg1, fun σ2 re2 _ => ?_⟩
        have h := OutS.pull h n
        refine ⟨M, ρ1, S, rs.same sm, re2, ?_⟩
        cases eb : b ρ1 S with
        | bad => rw [eb] at h; exact h
        | err c o S2 => rw [eb] at h; exact h
        | ok fl S2 =>
          rw [eb] at h
          cases fl with
          | nx ρ2 => exact fun M' H' σ' n' rs' re' => ⟨M', ρ2, S2, rs', re', so.nxt (so.nxt gg n) n', OutS.pull h n'⟩
          | ct ρ2 => exact fun M' H' σ' n' rs' re' => ⟨M', ρ2, S2, rs', re', so.nxt (so.nxt gg n) n', OutS.pull h n'⟩
          | bk ρ2 => exact fun M' H' σ' n' rs' re' => h M' H' σ' n' rs' re'
          | rt v => exact h
    · exact h.elim
  · left
    have hd : xs.drop i = [] := List.drop_eq_nil_of_le (by omega)
    rw [hd, forL] at h
    split at h
    · rename_i hf
      exact ⟨so.stop rs gg hf (by omega), h M H σ Nxt.refl rs re⟩
    · exact h.elim

/-! ### while -/
def whileN (c : DT) (b : DS) : Nat → LEnv → Store → Res Fl
  | 0, _, _ => .bad
  | n + 1, ρ, S => (c ρ S).bind fun k S1 => if k = true then (b ρ S1).bind fun fl S2 => match fl with
        | .nx ρ2 => whileN c b n ρ2 S2
        | .ct ρ2 => whileN c b n ρ2 S2
        | .bk ρ2 => .ok (.nx ρ2) S2
        | .rt v => .ok (.rt v) S2
      else .ok (.nx ρ) S1
open Classical in
noncomputable def dWhile (c : DT) (b : DS) : DS := fun ρ S => if h : ∃ n, whileN c b n ρ S ≠ .bad then whileN c b h.choose ρ S else .bad
theorem whileN_mono {c : DT} {b : DS} : ∀ {n m : Nat} {ρ : LEnv} {S : Store}, whileN c b n ρ S ≠ .bad → n ≤ m → whileN c b m ρ S = whileN c b n ρ S
  | 0, m, ρ, S, h, _ => absurd rfl h
  | n + 1, 0, ρ, S, _, hm => by omega
  | n + 1, m + 1, ρ, S, h, hm => by
    have hm' : n ≤ m := by omega
    simp only [whileN] at h ⊢
    cases e : c ρ S with
    | bad => rfl
    | err _ _ _ => rfl
    | ok k S1 =>
      rw [e] at h
      simp only [Res.bind_ok] at h ⊢
      cases k with
      | false => rfl
      | true =>
        simp only [if_true] at h ⊢
        cases e2 : b ρ S1 with
        | bad => rfl
        | err _ _ _ => rfl
        | ok fl S2 =>
          rw [e2] at h
          simp only [Res.bind_ok] at h ⊢
          cases fl with
          | nx ρ2 => exact whileN_mono h hm'
          | ct ρ2 => exact whileN_mono h hm'
          | bk _ => rfl
          | rt _ => rfl
theorem dWhile_eq {c : DT} {b : DS} {ρ : LEnv} {S : Store} {r : Res Fl} {n : Nat} (h : whileN c b n ρ S = r) (hr : r ≠ .bad) : dWhile c b ρ S = r := by
  unfold dWhile
  have hn : whileN c b n ρ S ≠ .bad := by rw [h]; exact hr
  rw [dif_pos ⟨n, hn⟩]
  have hc := Exists.choose_spec (⟨n, hn⟩ : ∃ n, whileN c b n ρ S ≠ .bad)
  generalize Exists.choose (⟨n, hn⟩ : ∃ n, whileN c b n ρ S ≠ .bad) = m at hc
  rcases Nat.le_total n m with q | q
  · rw [whileN_mono hn q, h]
  · rw [← whileN_mono hc q, h]
/-- one turn of it -/
theorem dWhile_step {c : DT} {b : DS} {ρ : LEnv} {S S1 S2 : Store} {ρ2 : LEnv} (hc : c ρ S = .ok true S1) (hb : b ρ S1 = .ok (.nx ρ2) S2 ∨ b ρ S1 = .ok (.ct ρ2) S2) : dWhile c b ρ S = dWhile c b ρ2 S2 := by
  by_cases h : ∃ n, whileN c b n ρ2 S2 ≠ .bad
  · obtain ⟨n, hn⟩ := h
    rw [dWhile_eq (r := whileN c b n ρ2 S2) rfl hn]
    refine dWhile_eq (n := n + 1) ?_ hn
    rcases hb with hb | hb <;> simp [whileN, hc, hb]
  · have h' : ¬ ∃ n, whileN c b n ρ S ≠ .bad := fun ⟨n, hn⟩ => by
      cases n with
      | zero => exact hn rfl
      | succ n =>
        apply h
        refine ⟨n, fun z => hn ?_⟩
        rcases hb with hb | hb <;> simp [whileN, hc, hb, z]
    unfold dWhile
    rw [dif_neg h, dif_neg h']
theorem dWhile_end {c : DT} {b : DS} {ρ : LEnv} {S S1 : Store} (hc : c ρ S = .ok false S1) : dWhile c b ρ S = .ok (.nx ρ) S1 := dWhile_eq (n := 1) (by simp [whileN, hc]) (by simp)
theorem dWhile_rt {c : DT} {b : DS} {ρ : LEnv} {S S1 S2 : Store} {x : PV} (hc : c ρ S = .ok true S1) (hb : b ρ S1 = .ok (.rt x) S2) : dWhile c b ρ S = .ok (.rt x) S2 := dWhile_eq (n := 1) (by simp [whileN, hc, hb]) (by simp)
theorem dWhile_bk {c : DT} {b : DS} {ρ ρ2 : LEnv} {S S1 S2 : Store} (hc : c ρ S = .ok true S1) (hb : b ρ S1 = .ok (.bk ρ2) S2) : dWhile c b ρ S = .ok (.nx ρ2) S2 := dWhile_eq (n := 1) (by simp [whileN, hc, hb]) (by simp)
theorem zs_while {body : List Stmt} (hp : PassesOwn (model X.prog X.w) X.A X.env X.xe) (hc : ZT X T W c ta) (hb : ZSs X T W body b) : ZS X T W (.While c body [] pos) (dWhile ta b) := (ps_while hp hc hb).imp fun D σ H ⟨M, ρ, S, rs, re, h⟩ => by
  unfold dWhile at h
  split at h
  · rename_i hex
    generalize hex.choose = n at h
    refine ⟨fun m σ H => ∃ M ρ S, RS (yOf X T) H M S ∧ RE (yOf X T) H M ρ σ ∧ OutS (yOf X T) W H M (whileN ta b m ρ S) D, ⟨n, M, ρ, S, rs, re, h⟩, ?_⟩
    rintro m σ H ⟨M, ρ, S, rs, re, h⟩
    cases m with
    | zero => exact h.elim
    | succ m =>
      rw [whileN] at h
      refine stepT gOutS rs re h fun M1 S1 k H1 n1 rs1 re1 e h1 => ?_
      cases k with
      | false => exact h1 M1 H1 σ Nxt.refl rs1 re1
      | true =>
        rw [if_pos rfl] at h1 ⊢
        refine ⟨fun σ' H' => ∃ M ρ S, RS (yOf X T) H' M S ∧ RE (yOf X T) H' M ρ σ' ∧ OutS (yOf X T) W H' M (whileN ta b m ρ S) D, fun σ' H' q => ⟨m, Nat.lt_succ_self m, q⟩, M1, ρ, S1, rs1, re1, ?_⟩
        cases eb : b ρ S1 with
        | bad => rw [eb] at h1; exact h1
        | err c o S2 => rw [eb] at h1; exact h1
        | ok fl S2 =>
          rw [eb] at h1
          cases fl with
          | nx ρ2 => exact fun M' H' σ' n' rs' re' => ⟨M', ρ2, S2, rs', re', OutS.pull h1 n'⟩
          | ct ρ2 => exact fun M' H' σ' n' rs' re' => ⟨M', ρ2, S2, rs', re', OutS.pull h1 n'⟩
          | bk ρ2 => exact fun M' H' σ' n' rs' re' => h1 M' H' σ' n' rs' re'
          | rt v => exact h1
  · exact h.elim

/-! ### comprehensions -/
def wipeP (ρ : LEnv) : List Nat → LEnv
  | [] => ρ
  | v :: vs => (wipeP ρ vs).set v none
theorem RE.wipe {Y : Ctx} {H : Hp} {M : Mp} {ρ : LEnv} {σ : L2.St} (r : RE Y H M ρ σ) : ∀ vs : List Nat, RE Y H M (wipeP ρ vs) (wipe σ vs)
  | [] => r
  | v :: vs => by
    have ih := RE.wipe r vs
    refine ⟨by simp [wipeP, L2.wipe, ih.len], fun i x e => ?_⟩
    show ∃ w, ((L2.wipe σ vs).set v none)[i]? = _ ∧ _
    have e : ((wipeP ρ vs).set v none)[i]? = some (some x) := e
    by_cases h : v = i
    · subst h
      rw [List.getElem?_set] at e
      simp at e
    · rw [List.getElem?_set_ne h] at e ⊢
      exact ih.get i x e
/-- a raise inside a comprehension is not followed -/
def Res.calm {α : Type} (r : Res α) : Res α := match r with | .err _ _ _ => .bad | r => r
@[simp] theorem Res.calm_ok {α : Type} (a : α) (S : Store) : (Res.ok a S).calm = .ok a S := rfl
open Classical in
noncomputable def lcL (f : SF) (all : List PV) (g : DG) (t : DT) (el : DE) (vs : List Nat) (ρ : LEnv) : List PV → List PV → Store → Res (List PV)
  | [], acc, S => if f S = some all then .ok acc S else .bad
  | x :: xs, acc, S => if f S = some all then (match g x (wipeP ρ vs) with
      | none => .bad
      | some ρ1 => (t ρ1 S).calm.bind fun k S1 => if k = true then (el ρ1 S1).calm.bind fun y S2 => (bnd y S2).bind fun z S3 => if acc.length < 16777216 then lcL f all g t el vs ρ xs (acc ++ [z]) S3 else .bad
          else lcL f all g t el vs ρ xs acc S1) else .bad
noncomputable def dLc (d : DI) (g : DG) (t : DT) (el : DE) (vs : List Nat) : DE := fun ρ S => (d ρ S).bind fun f S1 => match f S1 with | none => .bad | some xs => (lcL f xs g t el vs ρ xs [] S1).bind fun ys S2 => .ok (.tmp ys) S2
def dYes : DT := fun _ S => .ok true S
abbrev ZTs (X : Cx) (T : List (Addr × Str)) (W : WX) (ifs : List Expr) (t : DT) : Prop := PTs X ifs (tOfT (yOf X T) W t)
theorem zts_nil : ZTs X T W [] dYes := ⟨fun pins s σ H Q I ⟨M, ρ, S, rs, re, h⟩ => pts_nil.run pins s σ H Q I (h M H Nxt.refl rs)⟩
theorem zts_one (h : ZT X T W c ta) : ZTs X T W [c] ta := pts_one h

/-! a new thing that is not of the store changes -/
mutual
theorem RV.fz {Y : Ctx} {H H1 : Hp} {M : Mp} (hz : ∀ a o u, Stay u → H a = some (.frz o u) → H1 a = some (.frz o u)) : ∀ {x : PV} {v : V}, RV Y H M x v → RV Y H1 M x v
  | .non, _, h => by simpa [RV] using h
  | .bl _, _, h => by simpa [RV] using h
  | .int _, _, h => by simpa [RV] using h
  | .str _, _, h => by simpa [RV] using h
  | .tup xs, v, h => by
    simp only [RV] at h ⊢
    obtain ⟨a, vs, e, ⟨o, h1, hd⟩, h2⟩ := h
    exact ⟨a, vs, e, ⟨o, hz _ _ _ True.intro h1, hd⟩, RVs.fz hz h2⟩
  | .frz xs, v, h => by
    simp only [RV] at h ⊢
    obtain ⟨a, vs, e, h1, h2⟩ := h
    refine ⟨a, vs, e, ?_, RVs.fz hz h2⟩
    rcases h1 with ⟨o, h1⟩ | h1
    · exact .inl ⟨o, hz _ _ _ True.intro h1⟩
    · exact .inr h1
  | .ref k i, v, h => by simpa [RV] using h
  | .tmp _, _, h => by simp [RV] at h
  | .tmd _ _, _, h => by simp [RV] at h
  | .glo _, _, h => by simpa [RV] using h
theorem RVs.fz {Y : Ctx} {H H1 : Hp} {M : Mp} (hz : ∀ a o u, Stay u → H a = some (.frz o u) → H1 a = some (.frz o u)) : ∀ {xs : List PV} {vs : List V}, RVs Y H M xs vs → RVs Y H1 M xs vs
  | [], _, h => by simpa [RVs] using h
  | x :: xs, vs, h => by
    simp only [RVs] at h ⊢
    obtain ⟨v, vr, e, h1, h2⟩ := h
    exact ⟨v, vr, e, RV.fz hz h1, RVs.fz hz h2⟩
end
theorem RFs.fz {Y : Ctx} {H H1 : Hp} {M : Mp} (hz : ∀ a o u, Stay u → H a = some (.frz o u) → H1 a = some (.frz o u)) : ∀ {fs : List (Str × PV)} {vs : List (Str × V)}, RFs Y H M fs vs → RFs Y H1 M fs vs
  | [], _, h => h
  | p :: ps, vs, h => by
    obtain ⟨v, r, e, h1, h2⟩ := h
    exact ⟨v, r, e, RV.fz hz h1, RFs.fz hz h2⟩
theorem RC.fz {Y : Ctx} {H H1 : Hp} {M : Mp} {a : Addr} (hz : ∀ a o u, Stay u → H a = some (.frz o u) → H1 a = some (.frz o u)) (ha : H1 a = H a) : ∀ {c : Cell}, RC Y H M c a → RC Y H1 M c a
  | .lst _, h => by obtain ⟨vs, e1, h1⟩ := h; exact ⟨vs, ha.trans e1, RVs.fz hz h1⟩
  | .dic _ _, h => by obtain ⟨vs, e1, h1, h2⟩ := h; exact ⟨vs, ha.trans e1, h1, RVs.fz hz h2⟩
  | .ins _ _, h => by obtain ⟨C, dx, vs, e0, e1, h1⟩ := h; exact ⟨C, dx, vs, e0, ha.trans e1, RFs.fz hz h1⟩
  | .lck _ _, h => by obtain ⟨o, vs, e1, h1, h2⟩ := h; exact ⟨o, vs, ha.trans e1, h1, RVs.fz hz h2⟩
section
variable {Y : Ctx} {H : Hp} {M : Mp} {S : Store} {A : Addr} {u o : HO}
theorem fz_upd (hA : H A = some u) (hu : ∀ ob w, u ≠ .frz ob w) : ∀ a ob w, Stay w → H a = some (.frz ob w) → (upd H A o) a = some (.frz ob w) := fun a ob w _ h => by
  rw [upd_ne (fun z => by rw [z, hA] at h; cases h; exact hu _ _ rfl)]; exact h
theorem RS.off (rs : RS Y H M S) (hA : H A = some u) (hn : ∀ i, i < M.ks.length → M.f i ≠ A) (h1 : ∀ ps, u ≠ .tbl ps) (h2 : ∀ c q, u ≠ LamX.CodeO c q) (h3 : ∀ ob w, u ≠ .frz ob w) : RS Y (upd H A o) M S where
  ks := rs.ks
  cell := fun i c h => by
    have hi : i < M.ks.length := by rw [rs.len]; exact (List.getElem?_eq_some_iff.mp h).1
    exact (rs.cell i c h).fz (fz_upd hA h3) (upd_ne (hn i hi))
  inj := rs.inj
  tabs := tabs_cell rs.tabs hA h1 h2
theorem RE.fz {H1 : Hp} {ρ : LEnv} {σ : L2.St} (re : RE Y H M ρ σ) (hz : ∀ a o u, Stay u → H a = some (.frz o u) → H1 a = some (.frz o u)) : RE Y H1 M ρ σ := ⟨re.len, fun i x e => let ⟨v, h1, h2⟩ := re.get i x e; ⟨v, h1, h2.fz hz⟩⟩
theorem Nxt.off {H0 : Hp} {M0 : Mp} (n : Nxt H0 M0 H M) (hA : H0 A = none) : Nxt H0 M0 (upd H A o) M where
  keep := fun a ob h nt hn => by rw [upd_ne (ne_of_none h hA)]; exact n.keep a ob h nt hn
  tup := fun a vs h => by rw [upd_ne (ne_of_none h hA)]; exact n.tup a vs h
  frz := fun a ob w h => by rw [upd_ne (ne_of_none h hA)]; exact n.frz a ob w h
  mu := n.mu
  ks := n.ks
  new := n.new
  dom := fun a h => by
    by_cases e : a = A
    · rw [e, upd_same]; simp
    · rw [upd_ne e]; exact n.dom a h
theorem RV.off {x : PV} {v : V} (h : RV Y H M x v) (hA : H A = some u) (h3 : ∀ ob w, u ≠ .frz ob w) : RV Y (upd H A o) M x v := h.fz (fz_upd hA h3)
end
theorem wipe_wipe (σ : L2.St) (ws : List Nat) : ∀ vs : List Nat, (∀ v ∈ vs, v ∈ ws) → L2.wipe (L2.wipe σ vs) ws = L2.wipe σ ws
  | [], _ => rfl
  | v :: vs, h => by
    show L2.wipe ((L2.wipe σ vs).set v none) ws = _
    rw [wipe_set, if_pos (h v List.mem_cons_self)]
    exact wipe_wipe σ ws vs fun w hw => h w (List.mem_cons_of_mem _ hw)
theorem lc_tof {k : Bool} {di : DI} {g : DG} {t : DT} {el : DE} {is vs : List Nat} (hv : ∀ i ∈ is, i ∈ vs) {σ : L2.St} {H : Hp} {Q : VK} (h : tOf (yOf X T) W (dLc di g t el vs) σ H Q) :
    tLc (tOfI (yOf X T) W k di) (tOfG (yOf X T) k g is) (tOfT (yOf X T) W0 t) (tOf (yOf X T) W0 el) vs σ H Q := by
  have hsl := lineS
  obtain ⟨M, ρ, S, rs, re, h⟩ := h
  unfold dLc at h
  refine stepI gOut rs re h fun M1 S1 f J G H1 n1 rs1 re1 so gg _ h1 => ?_
  cases hx : f S1 with
  | none => simp only [hx] at h1; exact h1.elim
  | some xs =>
  simp only [hx] at h1
  intro A hA
  have sA : Same H1 (upd H1 A (.lst [])) := same_upd hA
  refine ⟨fun i m H => m = xs.length - i ∧ i ≤ xs.length ∧ ∃ M S acc, RS (yOf X T) H M S ∧ Nxt H1 M1 H M ∧ RX (yOf X T) H M (.tmp acc) (.ref A) ∧ RE (yOf X T) H M ρ σ ∧
    Out (yOf X T) W σ H1 M1 ((lcL f xs g t el vs ρ (xs.drop i) acc S).bind fun ys S2 => .ok (.tmp ys) S2) Q, ⟨xs.length, by simp, Nat.zero_le _, M1, S1, [], rs1.same sA, Nxt.same sA, ⟨A, [], rfl, upd_same, fun i hi => rs1.ne hi hA, RVs.nil⟩, re1.nxt (Nxt.same sA), by simpa using h1⟩, ?_⟩
  rintro i m H ⟨rfl, hi, M, S, acc, rs, n, rx, re, h⟩
  have gH := so.nxt gg n
  by_cases hlt : i < xs.length
  · right
    have hd : xs.drop i = xs[i] :: xs.drop (i + 1) := List.drop_eq_getElem_cons hlt
    rw [hd, lcL] at h
    split at h
    · rename_i hf
      obtain ⟨hgo, hy⟩ := so.go rs gH hf (List.getElem?_eq_getElem hlt)
      refine ⟨hgo, fun H' => ∃ M S acc, RS (yOf X T) H' M S ∧ Nxt H1 M1 H' M ∧ RX (yOf X T) H' M (.tmp acc) (.ref A) ∧ RE (yOf X T) H' M ρ σ ∧
          Out (yOf X T) W σ H1 M1 ((lcL f xs g t el vs ρ (xs.drop (i + 1)) acc S).bind fun ys S2 => .ok (.tmp ys) S2) Q,
        fun H' ⟨M', S', a', q⟩ => ⟨xs.length - (i + 1), by omega, rfl, hlt, M', S', a', q⟩, fun x H' y => ?_⟩
      obtain ⟨sm, rt⟩ := hy x H' y
      have n2 := Nxt.same (M := M) sm
      split at h
      · exact h.elim
      · rename_i ρ1 hg1
        refine ⟨M, wipeP ρ vs, xs[i], ρ1, (re.nxt n2).wipe vs, rt, hg1, fun σ2 re2 gs => ⟨(gs vs hv).trans (wipe_wipe σ vs vs fun _ h => h), ?_⟩⟩
        refine ⟨M, ρ1, S, rs.same sm, re2, ?_⟩
        cases et : t ρ1 S with
        | bad => rw [et] at h; exact h.elim
        | err c o S2 => rw [et] at h; exact h.elim
        | ok k2 S2 =>
        rw [et] at h
        intro M3 H3 n3 rs3
        have nn : Nxt H1 M1 H3 M3 := (n.trans n2).trans n3
        simp only [Res.calm_ok, Res.bind_ok] at h
        cases k2 with
        | false =>
          rw [if_neg Bool.false_ne_true] at h ⊢
          exact ⟨M3, S2, acc, rs3, nn, (rx.nxt n2).nxt n3, (re.nxt n2).nxt n3, h⟩
        | true =>
          rw [if_pos rfl] at h ⊢
          refine ⟨M3, ρ1, S2, rs3, re2.nxt n3, ?_⟩
          cases ee : el ρ1 S2 with
          | bad => rw [ee] at h; exact h.elim
          | err c o S3 => rw [ee] at h; exact h.elim
          | ok y S3 =>
          rw [ee] at h
          intro M4 H4 v n4 rs4 ry fr
          simp only [Res.calm_ok, Res.bind_ok] at h
          obtain ⟨z, S5, M5, eb, n5, rs5, rz⟩ := bnd_ok n4 rs4 ry fr
          rw [eb] at h
          simp only [Res.bind_ok] at h
          have rxA := ((rx.nxt n2).nxt n3).nxt n5
          obtain ⟨A', ws, eA, hA4, hnA, rws⟩ := rxA
          cases eA
          split at h
          · rename_i hacc
            have hl := rws.length
            refine ⟨ws, hA4, by omega, M5, S5, acc ++ [z], rs5.off hA4 hnA (fun ps z => by cases z) (fun c q z => by unfold LamX.CodeO at z; cases z) (fun ob w z => by cases z), (nn.trans n5).off hA, ⟨A, _, rfl, upd_same, hnA, ?_⟩, ?_, h⟩
            · exact (rws.fz (fz_upd hA4 fun ob w z => by cases z)).append (RVs.cons (rz.off hA4 fun ob w z => by cases z) RVs.nil)
            · exact RE.fz (((re.nxt n2).nxt n3).nxt n5) (fz_upd hA4 fun ob w z => by cases z)
          · exact h.elim
    · exact h.elim
  · left
    have hd : xs.drop i = [] := List.drop_eq_nil_of_le (by omega)
    rw [hd, lcL] at h
    split at h
    · rename_i hf
      exact ⟨so.stop rs gH hf (by omega), h M H (.ref A) n rs rx fun a e => by cases e; exact hA⟩
    · exact h.elim
theorem ze_lc {elt tg iter : Expr} {ifs : List Expr} {scope : Scope} {own : List (Str × Nat)} {k : Bool} {di : DI} {g : DG} {t : DT} {el : DE} {is : List Nat} (hc : X.calm = true) (hN : X.N.Nodup) (hi : ZI X T W k tg iter di) (ok : BlkOk X.N X.env.scope scope own) (hv : ∀ i ∈ is, i ∈ own.map (·.2))
    (hg : ∀ (s : Shared) (H : Hp) (C : Addr) (cl : List (Str × Addr)) (fp : List Addr), ZG (X.blk s H scope (compEnvC scope cl C X.env) fp) T k tg g is) (ht : ∀ (s : Shared) (H : Hp) (C : Addr) (cl : List (Str × Addr)) (fp : List Addr), ZTs (X.blk s H scope (compEnvC scope cl C X.env) fp) T W0 ifs t)
    (he : ∀ (s : Shared) (H : Hp) (C : Addr) (cl : List (Str × Addr)) (fp : List Addr), ZE (X.blk s H scope (compEnvC scope cl C X.env) fp) T W0 elt el) (hs : ∀ x, foldedSetIterable iter X.env x = pure x := by intro _; rfl) :
    ZE X T W (.ListComp elt [⟨tg, iter, ifs, 0⟩] scope pos) (dLc di g t el (own.map (·.2))) :=
  (pe_lc hc hN hi ok hg ht he hs).imp fun σ H Q h => lc_tof hv h
theorem zs_setLc {i : Nat} {y : Str} {py spos : Pos} {elt tg iter : Expr} {ifs : List Expr} {scope : Scope} {own : List (Str × Nat)} {k : Bool} {di : DI} {g : DG} {t : DT} {el : DE} {is : List Nat} (hc : X.calm = true) (hN : X.N.Nodup) (hy : X.N[i]? = some y) (hyl : X.env.scope.names.lookup y = some .local)
    (hsw : swapsWith (.ListComp elt [⟨tg, iter, ifs, 0⟩] scope pos) (some (.Name y py)) spos.line X.env = pure true) (hi : ZI X T W k tg iter di) (ok : BlkOk X.N X.env.scope scope own) (hv : ∀ i ∈ is, i ∈ own.map (·.2))
    (hg : ∀ (s : Shared) (H : Hp) (C : Addr) (cl : List (Str × Addr)) (fp : List Addr), ZG (X.blk s H scope (compEnvC scope cl C X.env) fp) T k tg g is) (ht : ∀ (s : Shared) (H : Hp) (C : Addr) (cl : List (Str × Addr)) (fp : List Addr), ZTs (X.blk s H scope (compEnvC scope cl C X.env) fp) T W0 ifs t)
    (he : ∀ (s : Shared) (H : Hp) (C : Addr) (cl : List (Str × Addr)) (fp : List Addr), ZE (X.blk s H scope (compEnvC scope cl C X.env) fp) T W0 elt el) (hs : ∀ x, foldedSetIterable iter X.env x = pure x := by intro _; rfl) :
    ZS X T W (.Assign [.Name y py] (.ListComp elt [⟨tg, iter, ifs, 0⟩] scope pos) spos) (dSet i (dLc di g t el (own.map (·.2)))) :=
  (ps_setLc hc hN hy hyl hsw hi ok hg ht he hs).imp fun D σ H ⟨M, ρ, S, rs, re, h⟩ => lc_tof (Q := fun x H1 => gName i x σ H1 D.nx) hv (set_out rs re h)
end
end Z

set_option Elab.async false
set_option linter.all false
set_option maxRecDepth 100000
set_option maxHeartbeats 2000000
/-! # ZJ: [::-1], places stored, *, functions -/
namespace Z
open PySem PySem.Spec PyProof.Rows L2

/-! ### xs[::-1] -/
section
variable {prog : Program} {w : World} {A : Around} {E : Value → Shared → Prop} {s : Shared}
theorem adjust_rev (n : Nat) : Builtin.Slice.sliceAdjust none none (-1) (n : Int) = ((n : Int) - 1, -1) := by
  unfold Builtin.Slice.sliceAdjust
  rfl
theorem places_rev (n : Nat) : Builtin.Slice.slicePlaces ((n : Int) - 1) (-1) (-1) = n := by
  unfold Builtin.Slice.slicePlaces
  have h1 : ¬ ((-1 : Int) > 0) := by omega
  simp only [h1, if_false]
  split
  · have e : ((n : Int) - 1 - -1 - 1) / (- -1) = n - 1 := by
      rw [show (- -1 : Int) = 1 from rfl, Int.ediv_one]; omega
    first
      | omega
      | (rw [e]; omega)
  · omega
theorem pick_rev (xs : Array Value) : ((List.range xs.size).filterMap fun (m : Nat) => xs[(((xs.size : Nat) : Int) - 1 + (m : Int) * -1).toNat]?).toArray = xs.toList.reverse.toArray := by
  have e : (fun (m : Nat) => xs[(((xs.size : Nat) : Int) - 1 + (m : Int) * -1).toNat]?) = (fun x => xs[x]?) ∘ fun k => xs.size - 1 - k := by
    funext m
    have : (((xs.size : Nat) : Int) - 1 + (m : Int) * -1).toNat = xs.size - 1 - m := by omega
    simp only [Function.comp, this]
  rw [e, ← List.filterMap_map, PySem.W.krv_range, List.filterMap_reverse, PySem.W.krv_all]
theorem sliceApplied_rev {sl : Addr} {vs : Value} {n : Nat} {Q : Int × Int × Nat → Shared → Prop} (hs : s.heap.IsSliceOf sl .none .none vs) (ps : IsPart vs (some (-1)))
    (h : Q ((n : Int) - 1, -1, n) s) : wpAny (model prog w) A (Builtin.Slice.sliceApplied (.ref sl) (pure (n : Int))) Q E s := by
  obtain ⟨os, hos, hcs, hds⟩ := id hs
  unfold Builtin.Slice.sliceApplied Builtin.Slice.sliceFields
  refine wpAny_bind (wpAny_bind (wpAny_field hos hds (x := .none) rfl (wpAny_bind (wpAny_field hos hds (x := .none) rfl (wpAny_bind (wpAny_field hos hds (x := vs) rfl (wpAny_pure ?_)))))))
  refine wpAny_bind (HT.slicePart_ ps ?_)
  show wpAny _ _ (if ((-1 : Int) == 0) = true then _ else _) _ _ s
  rw [if_neg (by decide)]
  refine wpAny_bind (HT.slicePart_ .none (wpAny_bind (HT.slicePart_ .none (wpAny_bind (wpAny_pure ?_)))))
  show wpAny _ _ (match Builtin.Slice.sliceAdjust none none (-1) (n : Int) with | (lo, hi) => pure (lo, (-1 : Int), Builtin.Slice.slicePlaces lo hi (-1))) _ _ s
  rw [adjust_rev n]
  show wpAny _ _ (pure ((n : Int) - 1, (-1 : Int), Builtin.Slice.slicePlaces ((n : Int) - 1) (-1) (-1))) _ _ s
  rw [places_rev]
  exact wpAny_pure h
theorem getItem_tuple_rev {t sl : Addr} {items : Array Value} {vs : Value} {Q : Value → Shared → Prop} (ht : IsTup s.heap t items) (hs : s.heap.IsSliceOf sl .none .none vs) (ps : IsPart vs (some (-1)))
    (h : Q (.ref s.heap.objs.size) { s with heap := s.heap.push { cls := .type "tuple", data := .seq items.toList.reverse.toArray } })
    (hsz : items.size ≤ sizeLine) : wpAny (model prog w) A (getItem (.ref t) (.ref sl)) Q E s := by
  have htake : sizeOk (.seq items.toList.reverse.toArray) := by
    show items.toList.reverse.toArray.size ≤ sizeLine
    rw [List.size_toArray, List.length_reverse, Array.length_toList]
    omega
  obtain ⟨os, hos, hcs, hds⟩ := id hs
  have hTs : s.TypeIs (.ref sl) "slice" := ⟨os, hos, hcs⟩
  unfold getItem
  try with_reducible refine wpAny_holding ?_
  first | refine wpAny_bind (wpAny_pure ?_) | skip
  refine wpAny_bind (wpAny_sequenceKey ht.typeIs (by decide) ?_)
  refine wpAny_bind (wpAny_callSpecial?_slot (name := Str.ofString "__getitem__") ht.typeIs PyProof.Rows.slot_tuple_getitem
    (wpAny_call_entry PyProof.Rows.slot_tuple_getitem ht.typeIs entry_tuple_getitem ?_ (args_tuple_getitem _ _)))
  show wpAny _ _ (Builtin.Tuple.tupleItemsOf (.ref t) >>= _) _ _ s
  refine wpAny_bind (tupleItemsOf_ ht ?_)
  refine wpAny_bind (wpAny_typeOf hTs ?_)
  rw [if_pos (by decide)]
  refine wpAny_bind (sliceApplied_rev hs ps ?_)
  show wpAny _ _ (if ((((items.size : Nat) : Int) - 1) == 0 && (-1 : Int) == 1 && items.size == items.size) = true then _ else _) _ _ s
  rw [if_neg (by simp), pick_rev]
  first
    | exact wpAny_bind (m := Builtin.Tuple.tupleExact _) (wpAny_newObj_type (wpAny_pure ⟨_, rfl, wpAny_pure h⟩) htake)
    | exact wpAny_bind (m := Builtin.Tuple.tupleExact _) (wpAny_newObj_type (wpAny_bind (wpAny_pure (wpAny_pure ⟨_, rfl, wpAny_pure h⟩))) htake)
    | exact wpAny_bind (wpAny_bind (m := Builtin.Tuple.tupleExact _) (wpAny_newObj_type (wpAny_pure (wpAny_pure ⟨_, rfl, wpAny_pure h⟩)) htake))
    | exact wpAny_bind (wpAny_bind (m := Builtin.Tuple.tupleExact _) (wpAny_newObj_type (wpAny_pure ⟨_, rfl, wpAny_pure h⟩) htake))
end
def tRevD (K : PySem.W.Frag) (te : TE) : TE := fun σ H Q => te σ H fun x H1 => ∃ a xs, x = .ref a ∧ ((SqL K H1 a xs ∧ ∀ p, H1 p = none → Q (.ref p) (upd H1 p (.lst xs.reverse))) ∨ (SqT K H1 a xs ∧ NewD H1 xs.reverse Q))
section
variable {X : Cx} {pos : Pos} {T : List (Addr × Str)} {W : WX}
theorem pe_revD {e : Expr} {te : TE} {k : Nat} {p1 p2 p3 pos : Pos} (he : PE X e te) : PE X (.Subscript e (.Slice none none (some (.UnaryOp .USub (.Constant (.int 1) k p1) p2)) p3) pos) (tRevD X.K te) := by
  refine ⟨fun pins s σ H Q I h => ?_⟩
  refine Subscript_ (thn (he.run pins s σ H _ I h) fun v s1 ⟨x, H1, I1, r1, q1⟩ => ?_)
  obtain ⟨a, xs, ex, hx⟩ := q1
  subst ex
  cases r1
  have hst : PO X (some (.UnaryOp .USub (.Constant (.int 1) k p1) p2)) (tPart (tUn (rU fun i => .int (-i)) (tC (.int 1)))) := po_some (pe_un un_neg pe_int)
  refine wpAny_Slice (thn (po_none.run pins s1 σ H1 (fun o H2 => o = none ∧ H2 = H1) I1 ⟨rfl, rfl⟩) fun vl s2 ⟨l, H2, I2, pl, el, e2⟩ => ?_)
  subst el e2
  refine thn (po_none.run pins s2 σ H2 (fun o H3 => o = none ∧ H3 = H2) I2 ⟨rfl, rfl⟩) fun vu s3 ⟨u, H3, I3, pu, eu, e3⟩ => ?_
  subst eu e3
  refine thn (hst.run pins s3 σ H3 (fun o H4 => o = some (-1) ∧ H4 = H3) I3 ⟨1, rfl, -1, rfl, rfl, rfl⟩) fun vs s4 ⟨o, H4, I4, ps, eo, e4⟩ => ?_
  subst eo e4
  have I5 : Inv X pins σ H4 { s4 with heap := s4.heap.push { cls := .type "slice", data := .fields #[vl, vu, vs] } } := I4.kept (t' := s4.toks) fun b ob q => Heap.get?_push_of_some _ q
  show wpAny (model X.prog X.w) X.A (subscriptTail e (.Slice none none (some (.UnaryOp .USub (.Constant (.int 1) k p1) p2)) p3) (.ref a) (.ref s4.heap.objs.size)) (EP X pins σ Q) X.xe { s4 with heap := s4.heap.push { cls := .type "slice", data := .fields #[vl, vu, vs] } }
  rcases hx with ⟨hx, q⟩ | ⟨hx, q⟩
  · obtain ⟨its, r, ht, hz⟩ := I5.list hx
    have hlen := r.length
    refine tail_any (ops := [.ref a, .ref s4.heap.objs.size]) ht.isList.typeIs (PySem.slot_list_getitem.lookup) ?_ (by with_unfolding_all rfl)
    refine wpAny_getItem_list_slice ht.isList (Heap.IsSliceOf.new _ vl vu vs) pl pu ps (by decide) ?_ (by rw [List.size_toArray]; omega)
    rw [PySem.W.krv_pick]
    refine ⟨.ref _, _, I5.laid (t' := s4.toks) (o := .lst xs.reverse) (fun b ob q => Heap.get?_push_of_some _ q) (Nat.le_refl _) ?_, rfl, q _ (I5.hok.fresh (Nat.le_refl _))⟩
    exact ⟨by rw [List.length_reverse]; exact hz, _, 0, r.reverse, Heap.get?_push_size _ rfl⟩
  · obtain ⟨its, r, ht, hz⟩ := I5.tuple hx
    have hlen := r.length
    cases pl
    cases pu
    refine tail_any (ops := [.ref a, .ref s4.heap.objs.size]) ht.typeIs (PyProof.Rows.slot_tuple_getitem.lookup) ?_ (by with_unfolding_all rfl)
    refine getItem_tuple_rev ht (Heap.IsSliceOf.new _ .none .none vs) ps ?_ (by rw [List.size_toArray]; omega)
    exact laidD (s := { s4 with heap := s4.heap.push { cls := .type "slice", data := .fields #[.none, .none, vs] } }) I5 r.reverse (by rw [List.length_reverse]; exact hz) q
def oRev : O1 := fun x S => match x with | .tup xs => some (.tup xs.reverse) | x => (lstOf x S).map fun xs => .tmp xs.reverse
theorem ze_rev {e : Expr} {d : DE} {k : Nat} {p1 p2 p3 : Pos} (he : ZE X T W e d) : ZE X T W (.Subscript e (.Slice none none (some (.UnaryOp .USub (.Constant (.int 1) k p1) p2)) p3) pos) (dUn oRev d) :=
  (pe_revD he).imp fun σ H Q ⟨M, ρ, S, rs, re, h⟩ => by
    refine step gOut rs re h fun M1 S1 x v H1 n1 rs1 re1 rx1 fr1 _ h1 => ?_
    unfold oRev at h1
    split at h1
    · obtain ⟨a, vs, rfl, h2, h3⟩ := rx_tup rx1
      exact ⟨a, vs, rfl, .inr ⟨h2.sqt, Out.newTup h1 rs1 h3.reverse⟩⟩
    · rename_i y hx
      cases e1 : lstOf x S1 with
      | none => rw [e1] at h1; exact h1.elim
      | some xs =>
        rw [e1] at h1
        obtain ⟨a, vs, rfl, h2, h3⟩ := rx_lst rs1 rx1 e1
        exact ⟨a, vs, rfl, .inl ⟨h2, fun p hp => Out.newTmp h1 rs1 hp h3.reverse⟩⟩

/-! ### * -/
def oMul : O2 := fun x y S => match x, y with
  | .int i, .int j => if (-(2 ^ 64) < i ∧ i < 2 ^ 64) ∨ (-(2 ^ 64) < j ∧ j < 2 ^ 64) then some (.int (i * j)) else none
  | _, _ => none
theorem oz_mul : OpR X (binaryOp .Mult) (rOf (yOf X T) oMul) := by
  intro pins s σ H x y v u Q I rx ry ⟨M, S, a, b, z, rs, ra, rb, e, q⟩
  unfold oMul at e
  split at e
  · split at e
    · rename_i hc
      cases e
      cases rx_int ra; cases rx_int rb
      exact op_mul pins s σ H _ _ v u Q I rx ry ⟨_, _, rfl, rfl, hc, q.int rs⟩
    · cases e
  · cases e

/-! ### xs[i] = v -/
def oSetL : PV → PV → PV → Store → Option Store := fun o i v S => match o, i with
  | .ref .lst n, .int i => match S[n]? with
    | some (.lst xs) => match ixN xs.length i with | some j => some (S.set n (.lst (xs.set j v))) | none => none
    | _ => none
  | _, _ => none
def dStore (dv do_ di : DE) : DS := fun ρ S => (dv ρ S).bind fun v S1 => (bnd v S1).bind fun v S2 => (do_ ρ S2).bind fun o S3 => (di ρ S3).bind fun i S4 => match oSetL o i v S4 with | some S5 => .ok (.nx ρ) S5 | none => .bad
theorem stepB {α : Type} {Y : Ctx} {σ : L2.St} {H : Hp} {M : Mp} {S : Store} {ρ : LEnv} {G : Hp → Mp → Res α → Prop} (g : GK Y W σ G) {d : DE} {k : PV → Store → Res α} {Q : VK} (rs : RS Y H M S) (re : RE Y H M ρ σ) (h : G H M ((d ρ S).bind fun x S1 => (bnd x S1).bind k))
    (f : ∀ M1 S1 x v H1, Nxt H M H1 M1 → RS Y H1 M1 S1 → RE Y H1 M1 ρ σ → RV Y H1 M1 x v → G H1 M1 (k x S1) → Q v H1) : tOf Y W d σ H Q := by
  refine ⟨M, ρ, S, rs, re, ?_⟩
  cases e : d ρ S with
  | ok x S1 =>
    rw [e] at h
    intro M' H' v n rs' rx fr
    obtain ⟨y, S2, M2, eb, n2, rs2, ry⟩ := bnd_ok n rs' rx fr
    have h : G H M ((bnd x S1).bind k) := h
    rw [eb] at h
    exact f M2 S2 y v H' n2 rs2 (re.nxt n2) ry (g.pull h n2)
  | err c o S1 => rw [e] at h; exact g.err h
  | bad => rw [e] at h; exact (g.bad h).elim
theorem zs_store {e o i : Expr} {d do_ di : DE} {pos' : Pos} (he : ZE X T W e d) (ho : ZE X T W o do_) (hi : ZE X T W i di) (hs : swapsWithSole [.Subscript o i pos'] e pos.line X.env = pure false := by rfl) (hw : swappedStores [.Subscript o i pos'] e X.env = pure none := by rfl)
    (h1 : (assignEach [.Subscript o i pos'] X.env).map (·.2) = [assign (.Subscript o i pos') X.env] := by rfl)
    (ha : ∀ v, assign (.Subscript o i pos') X.env v = (do
      let ov ← holding [v] (eval o X.env)
      let iv ← holding [v, ov] (eval i X.env)
      standAt pos'
      holding [v, ov, iv] (setItem ov iv v)
      release [v, ov, iv] []) := by intro _; rfl) :
    ZS X T W (.Assign [.Subscript o i pos'] e pos) (dStore d do_ di) := (ps_asg he (pg_sub ho hi set_list ha) hs hw h1).imp fun D σ H ⟨M, ρ, S, rs, re, h⟩ => by
  refine stepB gOutS rs re h fun M1 S1 v w H1 n1 rs1 re1 rv1 h1 => ?_
  refine step gOutS rs1 re1 h1 fun M2 S2 x u H2 n2 rs2 re2 rx2 fr2 _ h2 => ?_
  refine step gOutS rs2 re2 h2 fun M3 S3 y z H3 n3 rs3 re3 rx3 fr3 _ h3 => ?_
  have rv3 := (rv1.nxt n2).nxt n3
  cases e1 : oSetL x y v S3 with
  | none => rw [e1] at h3; exact h3.elim
  | some S5 =>
    rw [e1] at h3
    unfold oSetL at e1
    split at e1
    · rename_i n j
      split at e1
      · rename_i xs hS
        split at e1
        · rename_i k hk
          cases e1
          obtain ⟨ws, rfl, g1, g2, g3, g4⟩ := rx_cell rs3 (rx2.nxt n3) hS
          refine ⟨_, ws, _, k, rfl, rx_int rx3, g1, by rw [g2.length]; exact hk, ?_⟩
          have nn := Nxt.cell (o := .lst (ws.set k w)) rs3 g3 (rs3.nolck g4 (by decide))
          exact h3 M3 _ σ nn (rs3.set g3 (rs3.nolck g4 (by decide)) g4 ⟨_, upd_same, (g2.set rv3 k).nxt nn⟩) (re3.nxt nn)
        · cases e1
      · cases e1
    · cases e1
/-! ### name += e, name -= e -/
def dAug (i : Nat) (g : O2) (d : DE) : DS := fun ρ S => match ρ[i]? with
  | some (some x) => (d ρ S).bind fun y S1 => match g x y S1 with | some z => (bnd z S1).bind fun z S2 => .ok (.nx (ρ.set i (some z))) S2 | none => .bad
  | _ => .bad
def oAddI : O2 := fun x y _ => match x, y with | .int i, .int j => some (.int (i + j)) | _, _ => none
def oSubI : O2 := fun x y _ => match x, y with | .int i, .int j => some (.int (i - j)) | _, _ => none
theorem ipz_add : PIp X .Add (rOf (yOf X T) oAddI) := by
  intro pins s σ H x y v u Q I rx ry ⟨M, S, a, b, z, rs, ra, rb, e, q⟩
  unfold oAddI at e
  split at e
  · cases e
    cases rx_int ra; cases rx_int rb
    exact ip_add pins s σ H _ _ v u Q I rx ry ⟨_, _, rfl, rfl, q.int rs⟩
  · cases e
theorem ipz_sub : PIp X .Sub (rOf (yOf X T) oSubI) := by
  intro pins s σ H x y v u Q I rx ry ⟨M, S, a, b, z, rs, ra, rb, e, q⟩
  unfold oSubI at e
  split at e
  · cases e
    cases rx_int ra; cases rx_int rb
    exact ip_sub pins s σ H _ _ v u Q I rx ry ⟨_, _, rfl, rfl, q.int rs⟩
  · cases e
theorem zs_aug {i : Nat} {x : Str} {e : Expr} {d : DE} {op : Operator} {g : O2} {pos' : Pos} (hN : X.N.Nodup) (hi : X.N[i]? = some x) (hx : Loc X.env.scope x) (he : ZE X T W e d) (ho : PIp X op (rOf (yOf X T) g)) (hf : X.fn x = true ∨ X.env.scope.names.lookup x = some .local := by first | exact .inl rfl | exact .inr rfl | assumption) :
    ZS X T W (.AugAssign (.Name x pos') op e pos) (dAug i g d) := (ps_aug hN hi hx he ho hf).imp fun D σ H ⟨M, ρ, S, rs, re, h⟩ => by
  unfold dAug at h
  split at h
  · rename_i x hx
    obtain ⟨v, g1, g2⟩ := re.get i x hx
    refine ⟨v, g1, ?_⟩
    refine step gOutS rs re h fun M1 S1 y w H1 n1 rs1 re1 rx1 fr1 _ h1 => ?_
    cases e1 : g x y S1 with
    | none => rw [e1] at h1; exact h1.elim
    | some z =>
      rw [e1] at h1
      refine ⟨M1, S1, x, y, z, rs1, RX.of (g2.nxt n1), rx1, e1, fun M2 H2 w2 n2 rs2 rz fr => ?_⟩
      obtain ⟨z', S3, M3, eb, n3, rs3, rz'⟩ := bnd_ok n2 rs2 rz fr
      have h1 : OutS (yOf X T) W H1 M1 ((bnd z S1).bind fun z S2 => .ok (.nx (ρ.set i (some z))) S2) D := h1
      rw [eb] at h1
      exact h1 M3 H2 _ n3 rs3 ((re1.nxt n3).set rz' i)
  · exact h.elim
/-! ### code that is never reached -/
def dNever : DS := fun _ _ => .bad
theorem zs_never {st : Stmt} : ZS X T W st dNever := ps_never.imp fun D σ H ⟨M, ρ, S, rs, re, h⟩ => h
end

/-! ### functions -/
mutual
def cV (n : Nat) : PV → Bool
  | .tup xs => cVs n xs
  | .frz xs => cVs n xs
  | .ref _ i => decide (i < n)
  | .tmp xs => cVs n xs
  | .tmd _ xs => cVs n xs
  | _ => true
def cVs (n : Nat) : List PV → Bool
  | [] => true
  | x :: xs => cV n x && cVs n xs
end
def cC (n : Nat) : Cell → Bool
  | .lst xs => cVs n xs
  | .dic _ xs => cVs n xs
  | .lck _ xs => cVs n xs
  | .ins _ fs => fs.all fun p => cV n p.2
section
variable {Y : Ctx} {H H1 : Hp} {M M1 : Mp} {S S1 : Store}
mutual
theorem RV.cut (n : Nxt H M H1 M1) : ∀ {x : PV} {v : V}, cV M.ks.length x = true → RV Y H1 M1 x v → RV Y H1 M x v
  | .non, _, _, h => by simpa [RV] using h
  | .bl _, _, _, h => by simpa [RV] using h
  | .int _, _, _, h => by simpa [RV] using h
  | .str _, _, _, h => by simpa [RV] using h
  | .tup xs, v, c, h => by
    simp only [RV] at h ⊢
    obtain ⟨a, vs, e, h1, h2⟩ := h
    exact ⟨a, vs, e, h1, RVs.cut n (by simpa [cV] using c) h2⟩
  | .frz xs, v, c, h => by
    simp only [RV] at h ⊢
    obtain ⟨a, vs, e, h1, h2⟩ := h
    exact ⟨a, vs, e, h1, RVs.cut n (by simpa [cV] using c) h2⟩
  | .ref k i, v, c, h => by
    simp only [RV] at h ⊢
    have hi : i < M.ks.length := by simpa [cV] using c
    refine ⟨?_, by rw [← n.mu i hi]; exact h.2⟩
    obtain ⟨r, e⟩ := n.ks
    rw [← e, List.getElem?_append_left hi] at h
    exact h.1
  | .tmp _, _, _, h => by simp [RV] at h
  | .tmd _ _, _, _, h => by simp [RV] at h
  | .glo _, _, _, h => by simpa [RV] using h
theorem RVs.cut (n : Nxt H M H1 M1) : ∀ {xs : List PV} {vs : List V}, cVs M.ks.length xs = true → RVs Y H1 M1 xs vs → RVs Y H1 M xs vs
  | [], _, _, h => by simpa [RVs] using h
  | x :: xs, vs, c, h => by
    simp only [RVs] at h ⊢
    obtain ⟨v, vr, e, h1, h2⟩ := h
    have c : cV M.ks.length x = true ∧ cVs M.ks.length xs = true := by simpa [cVs] using c
    exact ⟨v, vr, e, RV.cut n c.1 h1, RVs.cut n c.2 h2⟩
end
mutual
theorem RV.closed : ∀ {x : PV} {v : V}, RV Y H M x v → cV M.ks.length x = true
  | .non, _, _ => by simp [cV]
  | .bl _, _, _ => by simp [cV]
  | .int _, _, _ => by simp [cV]
  | .str _, _, _ => by simp [cV]
  | .tup xs, v, h => by
    simp only [RV] at h
    obtain ⟨a, vs, e, h1, h2⟩ := h
    simpa [cV] using RVs.closed h2
  | .frz xs, v, h => by
    simp only [RV] at h
    obtain ⟨a, vs, e, h1, h2⟩ := h
    simpa [cV] using RVs.closed h2
  | .ref k i, v, h => by
    simp only [RV] at h
    simpa [cV] using (List.getElem?_eq_some_iff.mp h.1).1
  | .tmp _, _, h => by simp [RV] at h
  | .tmd _ _, _, h => by simp [RV] at h
  | .glo _, _, _ => by simp [cV]
theorem RVs.closed : ∀ {xs : List PV} {vs : List V}, RVs Y H M xs vs → cVs M.ks.length xs = true
  | [], _, _ => by simp [cVs]
  | x :: xs, vs, h => by
    simp only [RVs] at h
    obtain ⟨v, vr, e, h1, h2⟩ := h
    simp [cVs, RV.closed h1, RVs.closed h2]
end
theorem RFs.cut (n : Nxt H M H1 M1) : ∀ {fs : List (Str × PV)} {vs : List (Str × V)}, (fs.all fun p => cV M.ks.length p.2) = true → RFs Y H1 M1 fs vs → RFs Y H1 M fs vs
  | [], _, _, h => h
  | p :: ps, vs, c, h => by
    obtain ⟨v, r, e, h1, h2⟩ := h
    simp only [List.all_cons, Bool.and_eq_true] at c
    exact ⟨v, r, e, h1.cut n c.1, RFs.cut n c.2 h2⟩
theorem RFs.closed : ∀ {fs : List (Str × PV)} {vs : List (Str × V)}, RFs Y H M fs vs → (fs.all fun p => cV M.ks.length p.2) = true
  | [], _, _ => rfl
  | p :: ps, vs, h => by
    obtain ⟨v, r, e, h1, h2⟩ := h
    simp only [List.all_cons, Bool.and_eq_true]
    exact ⟨h1.closed, RFs.closed h2⟩
theorem RC.cut (n : Nxt H M H1 M1) {a : Addr} : ∀ {c : Cell}, cC M.ks.length c = true → RC Y H1 M1 c a → RC Y H1 M c a
  | .lst _, c, h => by obtain ⟨vs, e1, h1⟩ := h; exact ⟨vs, e1, h1.cut n c⟩
  | .dic _ _, c, h => by obtain ⟨vs, e1, h1, h2⟩ := h; exact ⟨vs, e1, h1, h2.cut n c⟩
  | .ins _ _, c, h => by obtain ⟨C, dx, vs, e0, e1, h1⟩ := h; exact ⟨C, dx, vs, e0, e1, h1.cut n c⟩
  | .lck _ _, c, h => by obtain ⟨o, vs, e1, h1, h2⟩ := h; exact ⟨o, vs, e1, h1, h2.cut n c⟩
theorem RC.closed {a : Addr} : ∀ {c : Cell}, RC Y H M c a → cC M.ks.length c = true
  | .lst _, h => by obtain ⟨vs, e1, h1⟩ := h; exact h1.closed
  | .dic _ _, h => by obtain ⟨vs, e1, h1, h2⟩ := h; exact h2.closed
  | .ins _ _, h => by obtain ⟨C, dx, vs, e0, e1, h1⟩ := h; exact h1.closed
  | .lck _ _, h => by obtain ⟨o, vs, e1, h1, h2⟩ := h; exact h2.closed
end
/-- the new cells can be forgotten -/
def GcOk (S S1 : Store) : Prop := ∀ i c, i < S.length → S1[i]? = some c → S[i]? = some c ∨ cC S.length c = true
/-- a new list or dict that is handed back is nobody's -/
def outV (n : Nat) (x : PV) (S1 : Store) : PV := match x with
  | .ref .lst i => if n ≤ i then (match S1[i]? with | some (.lst xs) => .tmp xs | _ => x) else x
  | .ref .dic i => if n ≤ i then (match S1[i]? with | some (.dic ks xs) => .tmd ks xs | _ => x) else x
  | x => x
open Classical in
noncomputable def gc (S : Store) (x : PV) (S1 : Store) : Res PV := if GcOk S S1 ∧ cV S.length (outV S.length x S1) = true then .ok (outV S.length x S1) (S1.take S.length) else .ok x S1
section
variable {Y : Ctx} {H H1 : Hp} {M M1 : Mp} {S S1 : Store}
theorem RS.cut (rs : RS Y H M S) (n : Nxt H M H1 M1) (rs1 : RS Y H1 M1 S1) (g : GcOk S S1) : RS Y H1 M (S1.take S.length) where
  ks := by
    have h1 := rs1.ks
    obtain ⟨r, e⟩ := n.ks
    show M.ks = (S1.take S.length).map Cell.kind
    rw [List.map_take]
    show M.ks = (kinds S1).take S.length
    rw [← h1, ← e, ← rs.len, List.take_left]
  cell := fun i c h => by
    have hi : i < S.length := by
      have := (List.getElem?_eq_some_iff.mp h).1
      rw [List.length_take] at this; omega
    rw [List.getElem?_take, if_pos hi] at h
    have hm : i < M.ks.length := by rw [rs.len]; exact hi
    have rc := rs1.cell i c h
    rw [n.mu i hm] at rc
    refine rc.cut n ?_
    rcases g i c hi h with q | q
    · exact (rs.cell i c q).closed
    · rw [rs.len]; exact q
  inj := rs.inj
  tabs := rs1.tabs
theorem Nxt.cut (n : Nxt H M H1 M1) : Nxt H M H1 M := ⟨n.keep, n.tup, n.frz, fun _ _ => rfl, List.prefix_refl _, fun i h1 h2 => absurd h2 (by omega), n.dom⟩
theorem RX.out (rs : RS Y H M S) (n : Nxt H M H1 M1) (rs1 : RS Y H1 M1 S1) {x : PV} {v : V} (rx : RX Y H1 M1 x v) (fr : Fr H x v) (c : cV S.length (outV S.length x S1) = true) : RX Y H1 M (outV S.length x S1) v ∧ Fr H (outV S.length x S1) v := by
  have simple : ∀ y : PV, (∀ xs, y ≠ .tmp xs) → (∀ ks xs, y ≠ .tmd ks xs) → RX Y H1 M1 y v → cV S.length y = true → RX Y H1 M y v ∧ Fr H y v := fun y h1 h2 h3 h4 => by
    have rv : RV Y H1 M1 y v := by
      cases y with
      | tmp xs => exact absurd rfl (h1 xs)
      | tmd ks xs => exact absurd rfl (h2 ks xs)
      | _ => exact h3
    have rv' := rv.cut n (by rw [rs.len]; exact h4)
    exact ⟨RX.of rv', Fr.of rv'⟩
  have apart : ∀ i, S.length ≤ i → i < M1.ks.length → ∀ j, j < M.ks.length → M.f j ≠ M1.f i := fun i h1 h2 j hj e => by
    have := rs1.inj j i (Nat.lt_of_lt_of_le hj n.len) h2 (by rw [n.mu j hj]; exact e)
    have := rs.len
    omega
  cases x with
  | tmp xs =>
    obtain ⟨a, vs, e, h1, h2, h3⟩ := rx
    refine ⟨⟨a, vs, e, h1, fun j hj => ?_, h3.cut n (by rw [rs.len]; simpa [outV, cV] using c)⟩, fr⟩
    rw [← n.mu j hj]
    exact h2 j (Nat.lt_of_lt_of_le hj n.len)
  | tmd ks xs =>
    obtain ⟨a, vs, e, h1, h2, h3, h4⟩ := rx
    refine ⟨⟨a, vs, e, h1, fun j hj => ?_, h3, h4.cut n (by rw [rs.len]; simpa [outV, cV] using c)⟩, fr⟩
    rw [← n.mu j hj]
    exact h2 j (Nat.lt_of_lt_of_le hj n.len)
  | ref k i =>
    have rv : RV Y H1 M1 (.ref k i) v := rx
    have rv' := rv
    simp only [RV] at rv'
    obtain ⟨hk, rfl⟩ := rv'
    have hi1 := (List.getElem?_eq_some_iff.mp hk).1
    cases k with
    | lst =>
      unfold outV at c ⊢
      dsimp only at c ⊢
      split at c
      · rename_i hi
        rw [if_pos hi]
        split at c
        · rename_i xs hx
          have hn := n.new i (by rw [rs.len]; exact hi) hi1
          obtain ⟨vs, e1, h1⟩ := rs1.cell i _ hx
          exact ⟨⟨M1.f i, vs, rfl, e1, fun j hj => apart i hi hi1 j hj, h1.cut n (by rw [rs.len]; simpa [cV] using c)⟩, fun a e => by cases e; exact hn⟩
        · rename_i hno
          simp only [cV, decide_eq_true_eq] at c
          omega
      · rename_i hi
        rw [if_neg hi]
        exact simple _ (fun _ z => by cases z) (fun _ _ z => by cases z) rx c
    | dic =>
      unfold outV at c ⊢
      dsimp only at c ⊢
      split at c
      · rename_i hi
        rw [if_pos hi]
        split at c
        · rename_i ks xs hx
          have hn := n.new i (by rw [rs.len]; exact hi) hi1
          obtain ⟨vs, e1, h1, h2⟩ := rs1.cell i _ hx
          exact ⟨⟨M1.f i, vs, rfl, e1, fun j hj => apart i hi hi1 j hj, h1, h2.cut n (by rw [rs.len]; simpa [cV] using c)⟩, fun a e => by cases e; exact hn⟩
        · rename_i hno
          simp only [cV, decide_eq_true_eq] at c
          omega
      · rename_i hi
        rw [if_neg hi]
        exact simple _ (fun _ z => by cases z) (fun _ _ z => by cases z) rx c
    | ins => exact simple _ (fun _ z => by cases z) (fun _ _ z => by cases z) rx c
  | non => exact simple _ (fun _ z => by cases z) (fun _ _ z => by cases z) rx c
  | bl _ => exact simple _ (fun _ z => by cases z) (fun _ _ z => by cases z) rx c
  | int _ => exact simple _ (fun _ z => by cases z) (fun _ _ z => by cases z) rx c
  | str _ => exact simple _ (fun _ z => by cases z) (fun _ _ z => by cases z) rx c
  | tup _ => exact simple _ (fun _ z => by cases z) (fun _ _ z => by cases z) rx c
  | frz _ => exact simple _ (fun _ z => by cases z) (fun _ _ z => by cases z) rx c
  | glo _ => exact simple _ (fun _ z => by cases z) (fun _ _ z => by cases z) rx c
end
abbrev PF := List PV → Store → Res PV
/-- the meaning of a def, by its body: m slots -/
noncomputable def mkFn (m : Nat) (b : DS) : PF := fun xs S => match b (xs.map some ++ List.replicate (m - xs.length) none) S with
  | .ok (.rt x) S1 => gc S x S1
  | .ok (.nx _) S1 => gc S .non S1
  | .err c o S1 => .err c o S1
  | _ => .bad
/-- a def that means f (nothing is raised) -/
def spZ (Y : Ctx) (n : Nat) (f : PF) : Sp := fun vs H Q _ => vs.length = n ∧ ∃ M xs S x S1, RS Y H M S ∧ RVs Y H M xs vs ∧ f xs S = .ok x S1 ∧ ∀ M' H' v, Nxt H M H' M' → RS Y H' M' S1 → RX Y H' M' x v → Fr H x v → Q v H'
def dCall (n : Nat) (f : PF) (r : DA) : DE := fun ρ S => (r ρ S).bind fun xs S1 => if xs.length = n then (f xs S1).calm else .bad
section
variable {P : Program} {w : World} {K : PySem.W.Frag} {mg : Str → Option Value} {base : Heap} {T : List (Addr × Str)}
theorem re_start {Y : Ctx} {H : Hp} {M : Mp} {xs : List PV} {vs : List V} {N : List Str} (r : RVs Y H M xs vs) : RE Y H M (xs.map some ++ List.replicate (N.length - xs.length) none) (L2.start N vs) where
  len := by simp [L2.start, r.length]
  get := fun i x e => by
    have hi : i < xs.length := by
      by_cases hi : i < xs.length
      · exact hi
      · rw [List.getElem?_append_right (by simpa using hi), List.getElem?_replicate] at e
        split at e <;> cases e
    rw [List.getElem?_append_left (by simpa using hi), List.getElem?_map] at e
    have e2 : xs[i]? = some x := by
      cases q : xs[i]? with
      | none => rw [q] at e; cases e
      | some y => rw [q] at e; cases e; rfl
    obtain ⟨v, h1, h2⟩ := r.get e2
    refine ⟨v, ?_, h2⟩
    unfold L2.start
    rw [List.getElem?_append_left (by rw [List.length_map, r.length]; exact hi), List.getElem?_map, h1]
    rfl
theorem fn_ok {x : Str} {st : Stmt} {f : Addr} {fd : FuncData} {N ps : List Str} {k : Nat} {b : DS} (F : Fun K x x st f fd) (S : FnScope N ps (defScope st))
    (hb : ∀ (cdv : Value) (A : Around) (outer : List Env) (s : Shared) (H : Hp) (E : XK), Room k (A.deeper (envOfC x (defScope st) s.heap.objs.size f cdv)) →
      ZSs (cxOf CX0 P w K mg base N x (defScope st) f cdv A outer s H E).nox T W0 (defBody st) b) :
    FnOk P w K mg base CX0 (k + 1) f fd ps (spZ ⟨K, mg, T⟩ ps.length (mkFn N.length b)) := by
  refine F.ok S (fun vs H Q E h => h.1) fun cdv A outer s H vs Q E hr ⟨hl, M, xs, S0, x, S1, rs, rx, e, hq⟩ => ⟨_, hb cdv A outer s H E hr, ?_⟩
  refine ⟨M, _, S0, rs, re_start (N := N) rx, ?_⟩
  unfold mkFn at e
  have fin : ∀ (y : PV) (S2 : Store), gc S0 y S2 = .ok x S1 → ∀ M' H' v, Nxt H M H' M' → RS ⟨K, mg, T⟩ H' M' S2 → RX ⟨K, mg, T⟩ H' M' y v → Fr H y v → Q v H' := fun y S2 e M' H' v n rs2 ry fr => by
    unfold gc at e
    split at e
    · rename_i hg
      cases e
      obtain ⟨r1, r2⟩ := RX.out rs n rs2 ry fr hg.2
      exact hq M H' v n.cut (rs.cut n rs2 hg.1) r1 r2
    · cases e
      exact hq M' H' v n rs2 ry fr
  generalize b (xs.map some ++ List.replicate (N.length - xs.length) none) S0 = r at e ⊢
  cases r with
  | bad => cases e
  | err c o S2 => cases e
  | ok fl S2 =>
    cases fl with
    | rt y => exact fun M' H' v n rs2 ry fr => fin y S2 e M' H' v n rs2 ry fr
    | nx ρ => exact fun M' H' σ' n rs2 re => fin .non S2 e M' H' .non n rs2 (RX.of (by simp [RV])) True.intro
    | bk ρ => cases e
    | ct ρ => cases e
end
theorem fn_bad {P : Program} {w : World} {K : PySem.W.Frag} {mg : Str → Option Value} {base : Heap} {Y : Ctx} {k : Nat} {f : Addr} {fd : FuncData} {ps : List Str} : FnOk P w K mg base CX0 k f fd ps (spZ Y ps.length fun _ _ => .bad) :=
  ⟨fun vs H Q E h => h.1, fun A outer s H args us vs Q E _ _ _ _ ⟨_, _, _, _, _, _, _, _, z, _⟩ => by cases z⟩
/-- of a def: its promise -/
def FnZ (P : Program) (w : World) (K : PySem.W.Frag) (mg : Str → Option Value) (base : Heap) (T : List (Addr × Str)) (x : Str) (n k : Nat) (f : PF) : Prop :=
  ∃ (a : Addr) (fd : FuncData) (ps : List Str), ps.length = n ∧ FnOk P w K mg base CX0 k a fd ps (spZ ⟨K, mg, T⟩ n f) ∧ mg x = some (.ref a) ∧ PySem.W.keepIn K (.ref a) = true ∧ Binds K fd ps []
section
variable {X : Cx} {T : List (Addr × Str)} {W : WX} {e : Expr} {es : List Expr}
theorem ze_call {x : Str} {n k : Nat} {f : PF} {r : DA} {p pos : Pos} (F : FnZ X.prog X.w X.K X.mg X.base T x n k f) (hr : Room k X.A) (hg : Gl X x) (ha : ZA X T W (e :: es) r)
    (hdb : (x == ("__debug__" : Str)) = false := by decide) (he : starEach (e :: es) X.env = (false, eval e X.env) :: starEach es X.env := by rfl) (hpl : (backTo pos (starEach es X.env)).any (·.1) = false := by rfl) :
    ZE X T W (.Call (.Name x p) (e :: es) [] pos) (dCall n f r) := by
  obtain ⟨a, fd, ps, hps, F, hm, hk, hb⟩ := F
  refine (pe_call F hr hg hm hk hb .nil pass0 ha hdb he hpl).imp fun σ H Q ⟨M, ρ, S, rs, re, h⟩ => ?_
  refine stepA gOut rs re h fun M1 S1 xs vs H1 n1 rs1 re1 rx1 _ h1 => ?_
  split at h1
  · rename_i hl
    cases ef : f xs S1 with
    | bad => rw [ef] at h1; exact h1.elim
    | err c o S2 => rw [ef] at h1; exact h1.elim
    | ok y S2 =>
      rw [ef] at h1
      exact ⟨by rw [List.append_nil, rx1.length]; exact hl, M1, xs, S1, y, S2, rs1, by rw [List.append_nil]; exact rx1, ef, h1⟩
  · exact h1.elim
theorem ze_call0 {x : Str} {k : Nat} {f : PF} {p pos : Pos} (F : FnZ X.prog X.w X.K X.mg X.base T x 0 k f) (hr : Room k X.A) (hg : Gl X x)
    (hdb : (x == ("__debug__" : Str)) = false := by decide) : ZE X T W (.Call (.Name x p) [] [] pos) (dCall 0 f dNil) := by
  obtain ⟨a, fd, ps, hps, F, hm, hk, hb⟩ := F
  refine (pe_call0 F hr hg hm hk hb .nil pass0 hdb).imp fun σ H Q ⟨M, ρ, S, rs, re, h⟩ => ?_
  have h1 : Out (yOf X T) W σ H M ((f [] S).calm) Q := h
  cases ef : f [] S with
  | bad => rw [ef] at h1; exact h1.elim
  | err c o S2 => rw [ef] at h1; exact h1.elim
  | ok y S2 =>
    rw [ef] at h1
    exact ⟨rfl, M, [], S, y, S2, rs, RVs.nil, ef, h1⟩
/-- the name that stands in the i-th slot -/
theorem zv (i : Nat) {x : Str} {pos : Pos} (hN : X.N[i]? = some x := by rfl) (hv : Vis X.env.scope x := by first | exact Or.inl rfl | exact Or.inr (Or.inl rfl) | exact Or.inr (Or.inr rfl)) (hd : (x == ("__debug__" : Str)) = false := by decide)
    (hcd : (x == ("__classdict__" : Str)) = false := by decide) : ZE X T W (.Name x pos) (dVar i) := ze_var hN hv hd hcd
theorem zg (i : Nat) {x : Str} {pos : Pos} (hN : X.N.Nodup) (hi : X.N[i]? = some x := by rfl) (hx : Loc X.env.scope x := by first | exact Or.inl rfl | exact Or.inr rfl) (hf : X.fn x = true ∨ X.env.scope.names.lookup x = some .local := by first | exact .inl rfl | exact .inr rfl) : ZG X T false (.Name x pos) (gSet i) [i] := zg_name hN hi hx hf
theorem zset (i : Nat) {x : Str} {d : DE} {pos pos' : Pos} (hN : X.N.Nodup) (he : ZE X T W e d) (hi : X.N[i]? = some x := by rfl) (hx : Loc X.env.scope x := by first | exact Or.inl rfl | exact Or.inr rfl) (hs : swapsWith e (some (.Name x pos')) pos.line X.env = pure false := by rfl) (hf : X.fn x = true ∨ X.env.scope.names.lookup x = some .local := by first | exact .inl rfl | exact .inr rfl) :
    ZS X T W (.Assign [.Name x pos'] e pos) (dSet i d) := zs_set hN hi hx he hs hf
theorem hu64 {k : Nat} {A : Around} (hr : Room k A) : A.units + 64 < cLine := by have := hr.un; omega
theorem hu65 {k : Nat} {A : Around} (hr : Room k A) : A.units + 65 < cLine := by have := hr.un; omega
end
end Z

set_option Elab.async false
set_option linter.all false
set_option maxRecDepth 100000
set_option maxHeartbeats 3200000
/-! # ZK: sorted texts, sets of texts -/
namespace Z
open PySem PySem.Spec PyProof.Rows L2

/-! ### the order of texts -/
theorem ltCps_tri : ∀ a b : List Nat, ltCps a b = false → ltCps b a = false → a = b
  | [], [], _, _ => rfl
  | [], _ :: _, h, _ => by simp [ltCps] at h
  | _ :: _, [], _, h => by simp [ltCps] at h
  | x :: a, y :: b, h1, h2 => by
    simp only [ltCps, Bool.or_eq_false_iff, Bool.and_eq_false_iff, decide_eq_false_iff_not] at h1 h2
    have e : x = y := by omega
    subst e
    have h1' : ltCps a b = false := by rcases h1.2 with q | q; · simp at q
                                       · exact q
    have h2' : ltCps b a = false := by rcases h2.2 with q | q; · simp at q
                                       · exact q
    rw [ltCps_tri a b h1' h2']
theorem ltCps_asymm : ∀ a b : List Nat, ltCps a b = true → ltCps b a = false
  | [], [], h => by simp [ltCps] at h
  | [], _ :: _, _ => by simp [ltCps]
  | _ :: _, [], h => by simp [ltCps] at h
  | x :: a, y :: b, h => by
    simp only [ltCps, Bool.or_eq_true, Bool.and_eq_true, decide_eq_true_eq, beq_iff_eq] at h
    simp only [ltCps, Bool.or_eq_false_iff, Bool.and_eq_false_iff, decide_eq_false_iff_not]
    rcases h with h | ⟨rfl, h⟩
    · exact ⟨by omega, .inl (by simp; omega)⟩
    · exact ⟨by omega, .inr (ltCps_asymm a b h)⟩
theorem ltCps_trans : ∀ a b c : List Nat, ltCps a b = true → ltCps b c = true → ltCps a c = true
  | [], [], _, h, _ => by simp [ltCps] at h
  | [], _ :: _, [], _, h => by simp [ltCps] at h
  | [], _ :: _, _ :: _, _, _ => by simp [ltCps]
  | _ :: _, [], _, h, _ => by simp [ltCps] at h
  | _ :: _, _ :: _, [], _, h => by simp [ltCps] at h
  | x :: a, y :: b, z :: c, h1, h2 => by
    simp only [ltCps, Bool.or_eq_true, Bool.and_eq_true, decide_eq_true_eq, beq_iff_eq] at h1 h2 ⊢
    rcases h1 with h1 | ⟨rfl, h1⟩
    · rcases h2 with h2 | ⟨rfl, h2⟩
      · exact .inl (by omega)
      · exact .inl h1
    · rcases h2 with h2 | ⟨rfl, h2⟩
      · exact .inl h2
      · exact .inr ⟨rfl, ltCps_trans a b c h1 h2⟩
/-- a stands no later than b -/
def leS (a b : Str) : Bool := !ltCps b.cps.toList a.cps.toList
theorem leS_total (a b : Str) : (leS a b || leS b a) = true := by
  unfold leS
  cases h : ltCps b.cps.toList a.cps.toList with
  | false => rfl
  | true => rw [ltCps_asymm _ _ h]; rfl
theorem leS_trans (a b c : Str) : leS a b = true → leS b c = true → leS a c = true := by
  unfold leS
  intro h1 h2
  simp only [Bool.not_eq_true'] at h1 h2 ⊢
  cases h : ltCps c.cps.toList a.cps.toList with
  | false => rfl
  | true =>
    cases h3 : ltCps a.cps.toList b.cps.toList with
    | true => rw [ltCps_trans _ _ _ h h3] at h2; cases h2
    | false => rw [ltCps_tri _ _ h3 h1] at h; rw [h] at h2; cases h2
theorem leS_anti (a b : Str) (h1 : leS a b = true) (h2 : leS b a = true) : a = b := by
  unfold leS at h1 h2
  simp only [Bool.not_eq_true'] at h1 h2
  have := ltCps_tri _ _ h2 h1
  obtain ⟨x⟩ := a
  obtain ⟨y⟩ := b
  congr 1
  exact Array.toList_inj.mp this
noncomputable def sortS (xs : List Str) : List Str := xs.mergeSort leS
theorem risingS_pw : ∀ (xs : List Str) (p : Str), risingS p xs = true → (p :: xs).Pairwise fun a b => leS a b = true
  | [], p, _ => by simp
  | x :: r, p, h => by
    simp only [risingS, Bool.and_eq_true] at h
    have ih := risingS_pw r x h.2
    have hpx : leS p x = true := h.1
    refine List.pairwise_cons.mpr ⟨fun y hy => ?_, ih⟩
    rcases List.mem_cons.mp hy with e | e
    · rw [e]; exact hpx
    · exact leS_trans _ _ _ hpx ((List.pairwise_cons.mp ih).1 y e)
theorem sortS_uniq {xs ys : List Str} (p : ys.Perm xs) (h : sortedS ys = true) : ys = sortS xs := by
  refine List.Perm.eq_of_pairwise (le := fun a b => leS a b = true) (fun a b _ _ h1 h2 => leS_anti a b h1 h2) ?_ (List.pairwise_mergeSort leS_trans leS_total xs) (p.trans (List.mergeSort_perm xs leS).symm)
  cases ys with
  | nil => simp
  | cons y r => exact risingS_pw r y h
theorem sortS_perm (xs : List Str) : (sortS xs).Perm xs := List.mergeSort_perm xs leS
theorem sortS_eq {xs ys : List Str} : sortS xs = sortS ys ↔ xs.Perm ys := by
  constructor
  · intro h
    exact (sortS_perm xs).symm.trans (h ▸ sortS_perm ys)
  · intro h
    refine List.Perm.eq_of_pairwise (le := fun a b => leS a b = true) (fun a b _ _ h1 h2 => leS_anti a b h1 h2) (List.pairwise_mergeSort leS_trans leS_total xs) (List.pairwise_mergeSort leS_trans leS_total ys) ((sortS_perm xs).trans (h.trans (sortS_perm ys).symm))

/-! ### sorted(..) of a list or tuple of texts -/
section
variable {prog : Program} {w : World} {A : Around} {E : Value → Shared → Prop} {s : Shared}
theorem collectT {l : Addr} {vs : List Value} {Q : List Value → Shared → Prop} (hl : s.heap.IsTuple l vs.toArray)
    (h : Q vs { s with heap := (s.heap.push (seqObj "list" #[] 0)).update s.heap.objs.size (Obj.mapSeq (· ++ vs.toArray)) }) (hsz : vs.length ≤ sizeLine) :
    wpAny (model prog w) A (collect (.ref l)) Q E s := by
  obtain ⟨o, ho, hc, n, hd⟩ := id hl
  unfold collect
  refine wpAny_bind (wpAny_runValue (codeAny_builtin entry_proto_collect' ?_))
  show wpAny _ _ (do again (.builtin "list.__iadd__" ⟨[← newList [], .ref l], []⟩)) _ _ s
  refine wpAny_bind (wpAny_newList (wpAny_pure ⟨Code.quiet_builtin _ (by decide +kernel), codeAny_builtin entry_list_iadd' ?_⟩))
  show wpAny _ _ (Builtin.List.listExtendWith (.ref s.heap.objs.size) (.ref l) (.ref s.heap.objs.size)) _ _ { s with heap := s.heap.push (seqObj "list" #[] 0) }
  unfold Builtin.List.listExtendWith
  have ho' : (s.heap.push (seqObj "list" #[] 0)).get? l = some o := Heap.get?_push_of_some _ ho
  refine wpAny_bind (wpAny_typeOf (T := "tuple") ⟨o, ho', hc⟩ ?_)
  have ht : (Value.type "tuple" == Value.type "tuple") = true := by rfl
  rw [if_pos (by rw [ht]; simp)]
  refine wpAny_bind (listItems_at ho' hd ?_)
  refine wpAny_bind (listItems_at (xs := #[]) (n := 0) (Heap.get?_push_size _ rfl) rfl ?_)
  rw [if_neg (by simp)]
  refine wpAny_bind (listUpdate_at (xs := #[]) (n := 0) (Heap.get?_push_size _ rfl) rfl ?_ (Nat.zero_le _) (by show (#[] ++ vs.toArray).size ≤ sizeLine + 1; simp only [Array.size_append, List.size_toArray, List.length_nil]; omega))
  refine wpAny_pure ?_
  show wpAny (model prog w) A (do
      let o ← load s.heap.objs.size
      match o.data with
      | .seq xs _ => pure xs.toList
      | _ => unsupported "internal:collect") Q E { s with heap := (s.heap.push (seqObj "list" #[] 0)).update s.heap.objs.size (Obj.mapSeq (· ++ vs.toArray)) }
  refine wpAny_bind (wpAny_load (get?_update_seq (Heap.get?_push_size _ rfl) _) ?_)
  show wpAny _ _ (pure ((#[] : Array Value) ++ vs.toArray).toList) Q E _
  rw [show ((#[] : Array Value) ++ vs.toArray).toList = vs by simp]
  exact wpAny_pure h
theorem sortedT_strs {l : Addr} {vs : List Value} {ss : List Str} {Q : Value → Shared → Prop} (hl : s.heap.IsTuple l vs.toArray) (hS : StrsAre vs ss) (hL : vs.length ≤ sizeLine)
    (h : ∀ (out : Array Value) (ss' : List Str), StrsAre out.toList ss' → ss'.Perm ss → sortedS ss' = true → Q (.ref (s.heap.objs.size + 1)) { s with heap := sortedAll s.heap vs out }) :
    wpAny (model prog w) A (call (.builtin "sorted") [.ref l]) Q E s := by
  refine Calls.call_function_entry kind_sorted plain_sorted entry_sorted (args_sorted1 _) ?_
  unfold Builtin.«sorted»
  refine wpAny_bind (m := checkCount "sorted" 1 1 _) (wpAny_pure ?_)
  refine wpAny_bind (collectT hl ?_ hL)
  refine wpAny_bind (wpAny_newList ?_)
  have hsz : ((s.heap.push (seqObj "list" #[] 0)).update s.heap.objs.size (Obj.mapSeq (· ++ vs.toArray))).objs.size = s.heap.objs.size + 1 := by
    rw [Heap.size_update, size_push']
  have hoL : (((s.heap.push (seqObj "list" #[] 0)).update s.heap.objs.size (Obj.mapSeq (· ++ vs.toArray))).push (seqObj "list" vs.toArray 0)).get? (s.heap.objs.size + 1) = some (seqObj "list" vs.toArray 0) := by
    rw [← hsz]; exact Heap.get?_push_size _ rfl
  show wpAny _ _ _ _ _ { s with heap := ((s.heap.push (seqObj "list" #[] 0)).update s.heap.objs.size (Obj.mapSeq (· ++ vs.toArray))).push (seqObj "list" vs.toArray 0) }
  rw [hsz]
  refine wpAny_bind (wpAny_holding (wpAny_call_entry slot_list_sort ⟨_, hoL, rfl⟩ entry_list_sort (list_sort_treeKAny strKind_oneLt hoL hS.keysOf (fun v₁ v₂ rest e => keyKind_strs (by rw [← e]; exact hS)) hL fun st' a1 a2 => ⟨_, rfl, ?_⟩) (args_list_sort _)))
  obtain ⟨ss', h1, h2, h3⟩ := sorted_out_str hS a1 a2
  exact wpAny_pure ⟨_, rfl, h _ ss' h1 h2 h3⟩
end
section
variable {X : Cx} {T : List (Addr × Str)} {W : WX} {a e : Expr} {es : List Expr} {d : DE} {pos : Pos}
noncomputable def fSorted : OA := fun xs S => match xs with | [x] => ((seqOf x S).bind strsOf).map fun ys => .tmp ((sortS ys).map .str) | _ => none
theorem cz_sorted : CallR X (.builtin "sorted") (rOfX (yOf X T) fSorted) := by
  intro pins s σ H vs us Q I r ⟨M, S, xs, z, rs, rx, e, q⟩
  unfold fSorted at e
  split at e
  · obtain ⟨v, rfl, h1⟩ := rxs1 rx
    simp only [Option.map_eq_some_iff, Option.bind_eq_some_iff] at e
    obtain ⟨ss, ⟨ys, e1, e2⟩, rfl⟩ := e
    obtain ⟨p, vs, rfl, h2, h3⟩ := rx_seq rs h1 e1
    have hv := strs_vs h3 e2
    subst hv
    rw [Vals.ref1 r]
    have fin : ∀ (its : List Value), Vals (ss.map V.str) its → its.length ≤ sizeLine → ∀ (out : Array Value) (ss' : List Str), StrsAre out.toList ss' → ss'.Perm ss → sortedS ss' = true → EP X pins σ Q (.ref (s.heap.objs.size + 1)) { s with heap := sortedAll s.heap its out } := fun its rv hz out ss' h1 h2 h3 => by
      obtain ⟨ep, he'⟩ := PyProof.Rows.sortedAll_at s.heap its out
      have hl2 := rv.length
      rw [List.length_map] at hl2
      have hlen : (ss'.map V.str).length ≤ sizeLine := by rw [List.length_map, h2.length_eq, hl2]; exact hz
      rw [sortS_uniq h2 h3] at h1 hlen
      exact ⟨.ref _, upd H (s.heap.objs.size + 1) (.lst ((sortS ss).map V.str)), I.laid (t' := s.toks) (fun _ _ => PyProof.Rows.sortedAll_old) (Nat.le_succ _) ⟨hlen, out.toList, ep, vals_of_strs h1, he'⟩, rfl, q.newTmp rs (rvs_strs _) (I.hok.fresh (Nat.le_succ _))⟩
    rcases h2 with h2 | h2
    · obtain ⟨its, rv, hl, hz⟩ := I.list h2
      have hz' : its.length ≤ sizeLine := by rw [← rv.length]; exact hz
      exact sorted_strsAny hl.isList rv.strs hz' fun out ss' h1 h2 h3 => fin its rv hz' out ss' h1 h2 h3
    · obtain ⟨its, rv, hl, hz⟩ := I.tuple h2
      have hz' : its.length ≤ sizeLine := by rw [← rv.length]; exact hz
      exact sortedT_strs (show s.heap.IsTuple p its.toArray from hl) rv.strs hz' fun out ss' h1 h2 h3 => fin its rv hz' out ss' h1 h2 h3
  · cases e
end

end Z

set_option Elab.async false
set_option linter.all false
set_option maxRecDepth 100000
set_option maxHeartbeats 3200000
/-! # ZL: sets of texts -/
namespace Z
open PySem PySem.Spec PyProof.Rows L2

/-! ### len(set(a list of texts)) -/
/-- how many unlike texts stand among the first i -/
def distN (xs : List Str) (i : Nat) : Nat := ((List.range i).filter fun j => !(xs.take j).any (· == xs.getD j Str.empty)).length
def dist (xs : List Str) : Nat := distN xs xs.length
theorem distN_succ (xs : List Str) (i : Nat) : distN xs (i + 1) = if (xs.take i).any (· == xs.getD i Str.empty) = true then distN xs i else distN xs i + 1 := by
  unfold distN
  rw [List.range_succ, List.filter_append, List.length_append]
  have e : ∀ b, (!(xs.take i).any (· == xs.getD i Str.empty)) = b → (List.filter (fun j => !(xs.take j).any (· == xs.getD j Str.empty)) [i]).length = if b = true then 1 else 0 := fun b hb => by
    rw [List.filter_cons, List.filter_nil, hb]
    cases b <;> rfl
  by_cases h : (xs.take i).any (· == xs.getD i Str.empty) = true
  · rw [if_pos h, e false (by rw [h]; rfl)]; rfl
  · rw [if_neg h]
    rw [Bool.not_eq_true] at h
    rw [e true (by rw [h]; rfl)]; rfl
theorem distN_le (xs : List Str) (i : Nat) : distN xs i ≤ i := by
  unfold distN
  exact Nat.le_trans (List.length_filter_le _ _) (by simp)
section
variable {prog : Program} {w : World} {A : Around} {R : Result → Shared → Prop} {I : Addr} {fp wr : List Addr} {G : Array GenState → Array GenState → Prop} {n : Nat} {P : Nat → Value → Prop} {St : Nat → Shared → Prop}
theorem loopZ (W : WalksS prog w A.in1 I fp wr G n P St) (S : Addr) (hSf : S ∉ fp) (xs : List Str) (hsz : xs.length = n) (hn1 : n + 1 < scanBound)
    (hval : ∀ i v, P i v → ∃ t, v = .str (xs.getD i Str.empty) t) :
    ∀ (k i : Nat) (s : Shared), n - i = k → i ≤ n → St i s →
      s.heap.SetOf (PySem.strKind prog w) S (fun k' => (xs.take i).any (· == k')) (distN xs i) →
      (∀ s', Moved (S :: wr) G s s' → s'.heap.SetOf (PySem.strKind prog w) S (fun k' => (xs.take n).any (· == k')) (distN xs n) → R (.ok (.ret .none)) s') →
      codeAny (model prog w) A (.builtin "set.update.loop" ⟨[.ref S, .ref I], []⟩) R s := by
  have hSw : S ∉ wr := fun h => hSf (W.sub _ h)
  have hsub : ∀ b ∈ wr, b ∈ S :: wr := fun b hb => List.mem_cons_of_mem _ hb
  intro k
  induction k with
  | zero =>
    intro i s hk hi hst hS hR
    have hin : i = n := by omega
    subst hin
    refine codeAny_builtin PyProof.Rows.F.entry_set_update_loop ?_
    rw [Around.under_plainId PyProof.Rows.F.plain_set_update_loop _]
    show wpAny _ A.in1 (pyNext (.ref I) >>= _) _ _ s
    refine wpAny_bind (W.done s _ _ hst fun s' hm => ?_)
    show wpAny _ A.in1 (ret Value.none) _ _ s'
    exact wpAny_pure (hR s' (hm.mono hsub) (by
      obtain ⟨o, es, ep, t, ho, rest⟩ := hS
      exact ⟨o, es, ep, t, hm.heap S _ hSw ho, rest⟩))
  | succ k ih =>
    intro i s hk hi hst hS hR
    have hlt : i < n := by omega
    refine codeAny_builtin PyProof.Rows.F.entry_set_update_loop ?_
    rw [Around.under_plainId PyProof.Rows.F.plain_set_update_loop _]
    show wpAny _ A.in1 (pyNext (.ref I) >>= _) _ _ s
    refine wpAny_bind (W.item i s _ _ hlt hst fun v s' hP hst' hm => ?_)
    obtain ⟨t, rfl⟩ := hval i v hP
    have hS' : s'.heap.SetOf (PySem.strKind prog w) S (fun k' => (xs.take i).any (· == k')) (distN xs i) := by
      obtain ⟨o, es, ep, tb, ho, rest⟩ := hS
      exact ⟨o, es, ep, tb, hm.heap S _ hSw ho, rest⟩
    show wpAny _ A.in1 (holding [Value.str (xs.getD i Str.empty) t] (setAdd S (.str (xs.getD i Str.empty) t)) >>= _) _ _ s'
    refine wpAny_bind (wpAny_holding ?_)
    unfold setAdd
    refine wpAny_holding ?_
    refine wpAny_bind ((PySem.strKind prog w).pyHash (k := xs.getD i Str.empty) (strKind_is _ _ _ _) ?_)
    have hd := distN_le xs i
    refine wpAny_setAddHashed_of (knd := PySem.strKind prog w) (s := { s' with toks := s'.toks + 1 }) (strKind_is _ _ _ _) rfl hS' (by omega) fun h' hsb hS2 => ?_
    have hSi : h'.SetOf (PySem.strKind prog w) S (fun k' => (xs.take (i + 1)).any (· == k')) (distN xs (i + 1)) := by
      refine SetOf_congr hS2 (fun k' => ?_) (distN_succ xs i).symm
      have ht : xs.take (i + 1) = xs.take i ++ [xs.getD i Str.empty] := by
        rw [List.take_add_one, List.getD_eq_getElem?_getD]
        rw [List.getElem?_eq_getElem (by omega)]
        rfl
      show ((xs.take i).any (· == k') || decide (k' = xs.getD i Str.empty)) = (xs.take (i + 1)).any (· == k')
      rw [ht, List.any_append]
      congr 1
      by_cases e : k' = xs.getD i Str.empty
      · subst e; simp
      · have hb : (xs.getD i Str.empty == k') = false := by simpa [beq_iff_eq] using (fun h' : xs.getD i Str.empty = k' => e h'.symm)
        simp only [List.any_cons, List.any_nil, Bool.or_false]
        rw [decide_eq_false e, hb]
    refine wpAny_pure ⟨plainId_quiet PyProof.Rows.F.plain_set_update_loop _, ih (i + 1) _ (by omega) hlt (W.frame _ s' _ _ hst' (Nat.le_succ _) fun b hb o e => ?_) hSi fun s'' hm'' hS'' => ?_⟩
    · rw [hsb.2 b (fun h : b = S => hSf (by rw [← h]; exact hb))]; exact e
    · refine hR s'' (Moved.trans W.gtrans ((hm.mono hsub).then_heap (Nat.le_succ _) fun b o hb e => ?_) hm'') hS''
      rw [hsb.2 b (fun h : b = S => hb (by rw [h]; exact List.mem_cons_self))]; exact e
end
section
variable {prog : Program} {w : World} {A : Around} {E : Value → Shared → Prop} {s : Shared}
open SS in
set_option maxHeartbeats 3200000 in
theorem call_setZ {l : Addr} {items : Array Value} {xs : List Str} {Q : Value → Shared → Prop}
    (hh : A.handled = none) (hl : s.heap.IsList l items) (hi : PyProof.Rows.StrsAre items.toList xs) (hb : xs.length + 1 < scanBound)
    (h : ∀ (h' : Heap) (tk : Nat), h'.SetOf (PySem.strKind prog w) s.heap.objs.size (fun k' => (xs.take items.size).any (· == k')) (distN xs items.size) →
      (∀ b o, b < s.heap.objs.size → s.heap.get? b = some o → h'.get? b = some o) → Q (.ref s.heap.objs.size) { s with heap := h', toks := tk }) :
    wpAny (model prog w) A (call (.type "set") [.ref l]) Q E s := by
  obtain ⟨c, tl, hmro⟩ := PySem.F.called_set.mro
  have hmade := PySem.F.called_set.made
  have hsub := PySem.F.called_set.sub
  refine wpAny_call (codeAny_of_tree ?_)
  show wpAny _ _ (callAny (.type "set") _) _ _ _
  refine wpAny_pure ⟨Code.quiet_builtin _ (by decide +kernel), codeAny_builtin PySem.F.entry_type_call ?_⟩
  rw [Around.under_plain (weight_type_call_type "set" [.ref l] []) rfl]
  have h1 := PySem.F.called_set.notType
  have h2 := PySem.F.called_set.canCreate
  have hct := PySem.F.typeCall_set_1 (.ref l)
  repeat (any_goals (first | assumption | wp_step))

  refine codeAny_mono (code_set_new_1 (.ref l) (E := E) (Q₁ := fun obj s₁ => ∃ led : Bool, obj = .ref s.heap.objs.size ∧ s₁ = { s with heap := s.heap.push { cls := .type "set", dict := none, data := .set #[] 0 (.fresh 0 0 led) } }) fun led => ⟨led, rfl, rfl⟩) fun r s₁ hr => ?_
  cases r with
  | error e => exact hr
  | ok fl =>
    cases fl with
    | ret obj =>
      obtain ⟨led, rfl, rfl⟩ := hr
      have hS : (s.heap.push { cls := .type "set", dict := none, data := .set #[] 0 (.fresh 0 0 led) }).get? s.heap.objs.size = some { cls := .type "set", dict := none, data := .set #[] 0 (.fresh 0 0 led) } := Heap.get?_push_size _ rfl
      have hT : Shared.TypeIs { s with heap := s.heap.push { cls := .type "set", dict := none, data := .set #[] 0 (.fresh 0 0 led) } } (.ref s.heap.objs.size) "set" := ⟨_, hS, rfl⟩
      have hli := PySem.F.called_set.init.lookup
      have hbi := PySem.F.called_set.init.bind (.ref s.heap.objs.size)
      repeat (any_goals (first | assumption | wp_step))

      refine codeAny_mono (codeAny_call_builtin (R := wants (fun r s₂ => r = .none ∧ ∃ h' tk, s₂ = { s with heap := h', toks := tk } ∧
          h'.SetOf (PySem.strKind prog w) s.heap.objs.size (fun k' => (xs.take items.size).any (· == k')) (distN xs items.size) ∧
          (∀ b o, b < s.heap.objs.size → s.heap.get? b = some o → h'.get? b = some o)) E) PySem.F.called_set.init.plain PySem.F.entry_set_init (check_set_init_1 hT ?_)) fun r₂ s₂ hr₂ => ?_
      · obtain ⟨ol, hol, hcl, nl, hdl⟩ := hl
        obtain ⟨ocls, odict, odata, oslots⟩ := ol
        simp only at hcl hdl
        subst hcl; subst hdl
        have hol' : (s.heap.push { cls := .type "set", dict := none, data := .set #[] 0 (.fresh 0 0 led) }).get? l = some { cls := .type "list", dict := odict, data := .seq items nl, slots := oslots } := Heap.get?_push_of_some _ hol
        have hsls := PySem.F.sub_list_set
        have hslf := PySem.F.sub_list_frozenset
        have hne : (Value.type "list" == Value.type "dict") = false := by decide
        have hl1 : (s.heap.push { cls := .type "set", dict := none, data := .set #[] 0 (.fresh 0 0 led) }).IsList l items := ⟨_, hol', rfl, nl, rfl⟩
        unfold Builtin.«set.__init__» noKeywords Builtin.Frozenset.updateFrom
        generalize hPI : pyIter = PI
        wp_walk
        subst hPI

        refine wpAny_pyIter_list hl1 ?_
        refine wpAny_bind (wpAny_runValue ?_)
        have hlS : l < s.heap.objs.size := Heap.lt_size hol
        have hh3 : A.in1.in1.in1.handled = none := by simp [hh]
        have hneI : l ≠ (s.heap.push { cls := .type "set", dict := none, data := .set #[] 0 (.fresh 0 0 led) }).objs.size := by
          rw [Heap.size_push]; exact Nat.ne_of_lt (Nat.lt_succ_of_lt hlS)
        have hSf : s.heap.objs.size ∉ [(s.heap.push { cls := .type "set", dict := none, data := .set #[] 0 (.fresh 0 0 led) }).objs.size, l] := by
          rw [Heap.size_push]; simp only [List.mem_cons, List.mem_singleton, List.not_mem_nil, or_false, not_or]
          exact ⟨Nat.ne_of_lt (Nat.lt_succ_self _), Nat.ne_of_gt hlS⟩
        have hsz : xs.length = items.size := by rw [← StrsAre.len_eq hi, Array.length_toList]
        have hval : ∀ (i : Nat) (v : Value), items[i]? = some v → ∃ t, v = .str (xs.getD i Str.empty) t := fun i v hv => strs_at hi i v (by rw [Array.getElem?_toList]; exact hv)
        refine loopZ ((Walks.list hh3 _ l hneI items).toS) s.heap.objs.size
          hSf xs hsz (by rw [← hsz]; exact hb) hval (items.size - 0) 0 _ (by omega) (Nat.zero_le _)
          ⟨⟨_, Heap.get?_push_size _ rfl, rfl, rfl⟩, (hl1.push _)⟩ ?hS0 ?hR
        case hS0 =>
          have hget : ((s.heap.push { cls := .type "set", dict := none, data := .set #[] 0 (.fresh 0 0 led) }).push { cls := .type "list_iterator", data := .fields #[.ref l, .int 0 0] }).get? s.heap.objs.size
              = some { cls := .type "set", dict := none, data := .set #[] 0 (.fresh 0 0 led) } := Heap.get?_push_of_some _ hS
          exact PyProof.Rows.SetOf_congr ((PyProof.Rows.setObjOf_fresh (knd := PySem.strKind prog w) led).setOf hget (by unfold scanBound; omega)) (fun _ => rfl) rfl
        case hR =>
          intro s' hm hS'
          obtain ⟨h', g', d', tk', os'⟩ := s'
          have eg : g' = s.gens := hm.gens
          have ed : d' = s.drawn := hm.drawn
          have eo : os' = s.os := hm.os
          subst eg; subst ed; subst eo
          show wpAny _ _ _ _ _ _
          refine wpAny_pure ?_
          show wpAny _ _ (ret Value.none) _ _ _
          refine wpAny_pure ⟨rfl, h', tk', rfl, hS', fun b o hb e => ?_⟩
          have hb1 : b ≠ s.heap.objs.size := Nat.ne_of_lt hb
          have hb2 : b ≠ (s.heap.push { cls := .type "set", dict := none, data := .set #[] 0 (.fresh 0 0 led) }).objs.size := by
            rw [Heap.size_push]; exact Nat.ne_of_lt (Nat.lt_succ_of_lt hb)
          exact hm.heap b o (by simp only [List.mem_cons, List.mem_singleton, List.not_mem_nil, or_false, not_or]; exact ⟨hb1, hb2⟩) (Heap.get?_push_of_some _ (Heap.get?_push_of_some _ e))

      · cases r₂ with
        | error e => exact hr₂
        | ok fl₂ =>
          cases fl₂ with
          | ret r =>
            obtain ⟨rfl, h', tk, rfl, hS', hk'⟩ := hr₂
            repeat (any_goals (first | assumption | wp_step))
            exact h _ _ hS' hk'
          | _ => exact hr₂.elim
    | _ => exact hr.elim


end
section
variable {X : Cx} {T : List (Addr × Str)} {W : WX} {a e : Expr} {es : List Expr} {d : DE} {pos : Pos}
theorem pe_lenSetZ {a : Expr} {ta : TE} {p p2 q pos : Pos} (hc : X.calm = true) (hg : Gl X "len") (hm : X.mg "len" = none) (hg2 : Gl X "set") (hm2 : X.mg "set" = none) (ha : PE X a ta)
    (na : starEach [a] X.env = (false, eval a X.env) :: starEach [] X.env := by rfl) : PE X (.Call (.Name "len" p) [.Call (.Name "set" p2) [a] [] q] [] pos) (fun σ H Q => ta σ H fun x H1 => ∃ l, ∃ xs : List Str, x = .ref l ∧ SqL X.K H1 l (xs.map V.str) ∧ xs.length + 1 < scanBound ∧ Q (.int (dist xs)) H1) := by
  refine ⟨fun pins s σ H Q I h => ?_⟩
  refine Call_ (ld_blt I hg hm boot_len ?_)
  refine PyProof.Rows.callWith_builtin1 (PyProof.Rows.args_cons ?_ rfl) rfl rfl
  refine Call_ (ld_blt I hg2 hm2 boot_set ?_)
  refine PyProof.Rows.callWith_type1 (PyProof.Rows.args_cons (thn (ha.run pins s σ H _ I h) fun v s1 ⟨x, H1, I1, r1, q1⟩ => PyProof.Rows.args_nil ?_) na) na rfl
  obtain ⟨l, xs, rfl, hq, h1, q1⟩ := q1
  cases r1
  have hsb : scanBound = 4096 := by decide
  obtain ⟨its, r, pl, hz⟩ := I1.list hq
  have hl : its.toArray.size = xs.length := by rw [List.size_toArray, ← r.length, List.length_map]
  refine call_setZ (I1.ok.hd hc) pl.isList (by simpa using strsAre_of r) h1 fun h' tk hS hk => ?_
  refine PyProof.Rows.args_nil ?_
  rw [hl] at hS
  have hd := distN_le xs xs.length
  obtain ⟨o, es, ep, t, ho, hex, hd', _, _, _, hf, hn⟩ := hS
  have I2 : Inv X pins σ H1 { s1 with heap := h', toks := tk } := I1.kept fun b o e => hk b o (Heap.lt_size e) e
  refine call_len_set ho hex hd' hf (by rw [hn] <;> omega) ⟨.int (dist xs), H1, I2.tok _, ⟨_, by rw [hn]; rfl⟩, q1⟩
def dLenSet (d : DE) : DE := fun ρ S => (d ρ S).bind fun x S1 => match (lstOf x S1).bind strsOf with | some xs => if xs.length < 4000 then .ok (.int (dist xs)) S1 else .bad | none => .bad
theorem ze_lenSet {a : Expr} {p p2 q pos : Pos} (hc : X.calm = true) (hg : Gl X "len") (hm : X.mg "len" = none) (hg2 : Gl X "set") (hm2 : X.mg "set" = none) (ha : ZE X T W a d)
    (na : starEach [a] X.env = (false, eval a X.env) :: starEach [] X.env := by rfl) : ZE X T W (.Call (.Name "len" p) [.Call (.Name "set" p2) [a] [] q] [] pos) (dLenSet d) :=
  (pe_lenSetZ hc hg hm hg2 hm2 ha na).imp fun σ H Q ⟨M, ρ, S, rs, re, h⟩ => by
    have hsb : scanBound = 4096 := by decide
    refine step gOut rs re h fun M1 S1 x v H1 n1 rs1 re1 rx1 fr1 _ h1 => ?_
    split at h1
    · rename_i xs hx
      split at h1
      · simp only [Option.bind_eq_some_iff] at hx
        obtain ⟨ys, e1, e2⟩ := hx
        obtain ⟨l, vs, rfl, h2, h3⟩ := rx_lst rs1 rx1 e1
        rw [strs_vs h3 e2] at h2
        exact ⟨l, xs, rfl, h2, by omega, Out.val h1 rs1 (by simp [RV])⟩
      · exact h1.elim
    · exact h1.elim
end
end Z

set_option Elab.async false
set_option linter.all false
set_option maxRecDepth 100000
set_option maxHeartbeats 2000000
/-! # ZM: reckoning with what a text means -/
namespace Z
open PySem PySem.Spec PyProof.Rows L2

section
variable {ρ : LEnv} {S S1 : Store} {da db dc d : DE} {ta tb : DT} {a b : DS} {i j : Nat} {x y : PV} {g g' : O2} {r : DA} {xs : List PV}
@[simp] theorem dVar_eq : dVar i ρ S = match ρ[i]? with | some (some x) => .ok x S | _ => .bad := rfl
@[simp] theorem dLit_eq : dLit x ρ S = .ok x S := rfl
@[simp] theorem dBin_eq : dBin g da db ρ S = (da ρ S).bind fun x S1 => (db ρ S1).bind fun y S2 => ofO (g x y S2) S2 := rfl
@[simp] theorem dUn_eq {g : O1} : dUn g da ρ S = (da ρ S).bind fun x S1 => ofO (g x S1) S1 := rfl
@[simp] theorem dTst_eq : dTst d ρ S = (d ρ S).bind fun x S1 => match x with | .bl k => .ok k S1 | _ => .bad := rfl
@[simp] theorem dChain_eq : dChain g g' da db dc ρ S = (da ρ S).bind fun x S1 => (db ρ S1).bind fun y S2 => match g x y S2 with
  | some (.bl true) => (dc ρ S2).bind fun z S3 => ofO (g' y z S3) S3
  | some (.bl false) => .ok (.bl false) S2
  | _ => .bad := rfl
@[simp] theorem dAndT_eq : dAndT ta tb ρ S = (ta ρ S).bind fun k S1 => if k = true then tb ρ S1 else .ok false S1 := rfl
@[simp] theorem dOrT_eq : dOrT ta tb ρ S = (ta ρ S).bind fun k S1 => if k = true then .ok true S1 else tb ρ S1 := rfl
@[simp] theorem dNotT_eq : dNotT ta ρ S = (ta ρ S).bind fun k S1 => .ok (!k) S1 := rfl
@[simp] theorem dAnd_eq : dAnd da db ρ S = (da ρ S).bind fun x S1 => match x with | .bl true => db ρ S1 | .bl false => .ok (.bl false) S1 | _ => .bad := rfl
@[simp] theorem dOr_eq : dOr da db ρ S = (da ρ S).bind fun x S1 => match x with | .bl false => db ρ S1 | .bl true => .ok (.bl true) S1 | _ => .bad := rfl
@[simp] theorem dNot_eq : dNot da ρ S = (da ρ S).bind fun x S1 => match x with | .bl k => .ok (.bl (!k)) S1 | _ => .bad := rfl
@[simp] theorem dIf_eq : dIf ta da db ρ S = (ta ρ S).bind fun k S1 => if k = true then da ρ S1 else db ρ S1 := rfl
@[simp] theorem dTup_eq : dTup r ρ S = (r ρ S).bind fun xs S1 => if xs.length ≤ 16777216 then .ok (.tup xs) S1 else .bad := rfl
@[simp] theorem dLst_eq : dLst r ρ S = (r ρ S).bind fun xs S1 => if xs.length ≤ 16777216 then .ok (.tmp xs) S1 else .bad := rfl
@[simp] theorem dNil_eq : dNil ρ S = .ok [] S := rfl
@[simp] theorem dCons_eq : dCons d r ρ S = (d ρ S).bind fun x S1 => (bnd x S1).bind fun y S2 => (r ρ S2).bind fun ys S3 => .ok (y :: ys) S3 := rfl
@[simp] theorem dConsX_eq : dConsX d r ρ S = (d ρ S).bind fun x S1 => (r ρ S1).bind fun ys S2 => .ok (x :: ys) S2 := rfl
@[simp] theorem dFn_eq {g : OA} : dFn g r ρ S = (r ρ S).bind fun xs S1 => ofO (g xs S1) S1 := rfl
@[simp] theorem dIsi_eq {ts : List BT} : dIsi ts d ρ S = (d ρ S).bind fun x S1 => ofO ((isTs ts x).map .bl) S1 := rfl
@[simp] theorem dNo_eq : dNo ρ S = .ok none S := rfl
@[simp] theorem dPart_eq : dPart d ρ S = (d ρ S).bind fun x S1 => match x with | .int i => .ok (some i) S1 | _ => .bad := rfl
@[simp] theorem dSl_eq {lo hi : DO} : dSl d lo hi ρ S = (d ρ S).bind fun x S1 => (lo ρ S1).bind fun l S2 => (hi ρ S2).bind fun u S3 => ofO (slP x l u S3) S3 := rfl
@[simp] theorem dMeth_eq {T : BT} {g : OM} : dMeth T g d r ρ S = (d ρ S).bind fun x S1 => if isT T x = some true then (r ρ S1).bind fun xs S2 => ofP (g x xs S2) else .bad := rfl
@[simp] theorem ofP_some : ofP (some (x, S)) = .ok x S := rfl
@[simp] theorem ofP_none : ofP none = .bad := rfl
@[simp] theorem dSkip_eq : dSkip ρ S = .ok (.nx ρ) S := rfl
@[simp] theorem dSeq_eq : dSeq a b ρ S = (a ρ S).bind fun f S1 => match f with | .nx ρ1 => b ρ1 S1 | f => .ok f S1 := rfl
@[simp] theorem dRet_eq : dRet d ρ S = (d ρ S).bind fun x S1 => .ok (.rt x) S1 := rfl
@[simp] theorem dRetN_eq : dRetN ρ S = .ok (.rt .non) S := rfl
@[simp] theorem dDrop_eq : dDrop d ρ S = (d ρ S).bind fun _ S1 => .ok (.nx ρ) S1 := rfl
@[simp] theorem dIfS_eq : dIfS ta a b ρ S = (ta ρ S).bind fun k S1 => if k = true then a ρ S1 else b ρ S1 := rfl
@[simp] theorem dSet_eq : dSet i d ρ S = (d ρ S).bind fun x S1 => (bnd x S1).bind fun y S2 => .ok (.nx (ρ.set i (some y))) S2 := rfl
@[simp] theorem dPar_eq : dPar i j r ρ S = (r ρ S).bind fun xs S1 => match xs with | [x, y] => .ok (.nx ((ρ.set i (some x)).set j (some y))) S1 | _ => .bad := rfl
@[simp] theorem dAsg_eq {g : DG} : dAsg g d ρ S = (d ρ S).bind fun x S1 => match g x ρ with | some ρ' => .ok (.nx ρ') S1 | none => .bad := rfl
@[simp] theorem dStore_eq {dv do_ di : DE} : dStore dv do_ di ρ S = (dv ρ S).bind fun v S1 => (bnd v S1).bind fun v S2 => (do_ ρ S2).bind fun o S3 => (di ρ S3).bind fun i S4 => match oSetL o i v S4 with | some S5 => .ok (.nx ρ) S5 | none => .bad := rfl
@[simp] theorem dYes_eq : dYes ρ S = .ok true S := rfl
@[simp] theorem dCall_eq {n : Nat} {f : PF} : dCall n f r ρ S = (r ρ S).bind fun xs S1 => if xs.length = n then (f xs S1).calm else .bad := rfl
@[simp] theorem dLenSet_eq : dLenSet d ρ S = (d ρ S).bind fun x S1 => match (lstOf x S1).bind strsOf with | some xs => if xs.length < 4000 then .ok (.int (dist xs)) S1 else .bad | none => .bad := rfl
@[simp] theorem gSet_eq : gSet i x ρ = some (ρ.set i (some x)) := rfl
@[simp] theorem gTupZ_eq {gs : DGs} : gTupZ gs (.tup xs) ρ = gs xs ρ := rfl
@[simp] theorem gAnd_eq {g : DG} {gs : DGs} : gAnd g gs (x :: xs) ρ = (g x ρ).bind (gs xs) := rfl
@[simp] theorem gNon_eq : gNon [] ρ = some ρ := rfl
@[simp] theorem bnd_non : bnd .non S = .ok .non S := rfl
@[simp] theorem bnd_bl {k : Bool} : bnd (.bl k) S = .ok (.bl k) S := rfl
@[simp] theorem bnd_int {k : Int} : bnd (.int k) S = .ok (.int k) S := rfl
@[simp] theorem bnd_str {k : Str} : bnd (.str k) S = .ok (.str k) S := rfl
@[simp] theorem bnd_tup : bnd (.tup xs) S = .ok (.tup xs) S := rfl
@[simp] theorem bnd_frz : bnd (.frz xs) S = .ok (.frz xs) S := rfl
@[simp] theorem bnd_ref {k : Kind} : bnd (.ref k i) S = .ok (.ref k i) S := rfl
@[simp] theorem bnd_glo {k : Str} : bnd (.glo k) S = .ok (.glo k) S := rfl
@[simp] theorem bnd_tmp : bnd (.tmp xs) S = .ok (.ref .lst S.length) (S ++ [.lst xs]) := rfl
@[simp] theorem wipeP_nil : wipeP ρ [] = ρ := rfl
@[simp] theorem wipeP_cons {vs : List Nat} : wipeP ρ (i :: vs) = (wipeP ρ vs).set i none := rfl
theorem bnd_same {x : PV} (h1 : ∀ xs, x ≠ .tmp xs) (h2 : ∀ ks xs, x ≠ .tmd ks xs) : bnd x S = .ok x S := by
  cases x <;> first | rfl | exact absurd rfl (h1 _) | exact absurd rfl (h2 _ _)
end
/-! ### comprehensions -/
section
variable {f : SF} {all : List PV} {g : DG} {t : DT} {el : DE} {vs : List Nat} {ρ : LEnv}
theorem lcL_pure {S : Store} (hf : f S = some all) (p : PV → Bool) (h : PV → PV) : ∀ (xs acc : List PV),
    (∀ x ∈ xs, ∃ ρ1, g x (wipeP ρ vs) = some ρ1 ∧ t ρ1 S = .ok (p x) S ∧ (p x = true → el ρ1 S = .ok (h x) S ∧ bnd (h x) S = .ok (h x) S)) → acc.length + xs.length ≤ 16777216 →
    lcL f all g t el vs ρ xs acc S = .ok (acc ++ (xs.filter p).map h) S
  | [], acc, _, _ => by simp [lcL, hf]
  | x :: xs, acc, hx, hl => by
    obtain ⟨ρ1, h1, h2, h3⟩ := hx x List.mem_cons_self
    simp only [List.length_cons] at hl
    rw [lcL, if_pos hf, h1]
    simp only [h2, Res.calm_ok, Res.bind_ok]
    by_cases hp : p x = true
    · obtain ⟨h4, h5⟩ := h3 hp
      rw [if_pos hp, h4]
      simp only [Res.calm_ok, Res.bind_ok, h5]
      rw [if_pos (by omega), lcL_pure hf p h xs (acc ++ [h x]) (fun y hy => hx y (List.mem_cons_of_mem _ hy)) (by simp; omega)]
      simp [hp]
    · rw [if_neg hp, lcL_pure hf p h xs acc (fun y hy => hx y (List.mem_cons_of_mem _ hy)) (by omega)]
      simp [hp]
theorem dLc_pure {d : DI} {S S1 : Store} (hd : d ρ S = .ok f S1) (hf : f S1 = some all) (p : PV → Bool) (h : PV → PV)
    (hx : ∀ x ∈ all, ∃ ρ1, g x (wipeP ρ vs) = some ρ1 ∧ t ρ1 S1 = .ok (p x) S1 ∧ (p x = true → el ρ1 S1 = .ok (h x) S1 ∧ bnd (h x) S1 = .ok (h x) S1)) (hl : all.length ≤ 16777216) :
    dLc d g t el vs ρ S = .ok (.tmp ((all.filter p).map h)) S1 := by
  unfold dLc
  rw [hd]
  simp only [Res.bind_ok, hf]
  rw [lcL_pure hf p h all [] hx (by simpa using hl)]
  simp
/-- without tests -/
theorem dLc_map {d : DI} {S S1 : Store} (hd : d ρ S = .ok f S1) (hf : f S1 = some all) (h : PV → PV)
    (hx : ∀ x ∈ all, ∃ ρ1, g x (wipeP ρ vs) = some ρ1 ∧ el ρ1 S1 = .ok (h x) S1 ∧ bnd (h x) S1 = .ok (h x) S1) (hl : all.length ≤ 16777216) :
    dLc d g dYes el vs ρ S = .ok (.tmp (all.map h)) S1 := by
  have := dLc_pure (t := dYes) hd hf (fun _ => true) h (fun x hm => let ⟨ρ1, h1, h2⟩ := hx x hm; ⟨ρ1, h1, rfl, fun _ => h2⟩) hl
  rw [List.filter_eq_self.mpr (fun _ _ => rfl)] at this
  exact this
/-- with a word that goes along -/
theorem lcL_inv (full : List PV) (I : List PV → List PV → Store → Prop) (hf : ∀ l acc S, I l acc S → f S = some all)
    (hs : ∀ l x r acc S, l ++ x :: r = full → I l acc S → ∃ ρ1 k S1, g x (wipeP ρ vs) = some ρ1 ∧ t ρ1 S = .ok k S1 ∧ (k = false → I (l ++ [x]) acc S1) ∧ (k = true → ∃ y S2 z S3, el ρ1 S1 = .ok y S2 ∧ bnd y S2 = .ok z S3 ∧ acc.length < 16777216 ∧ I (l ++ [x]) (acc ++ [z]) S3)) : ∀ (xs l acc : List PV) (S : Store), l ++ xs = full → I l acc S →
    ∃ ys S', lcL f all g t el vs ρ xs acc S = .ok ys S' ∧ I full ys S'
  | [], l, acc, S, e, hI => ⟨acc, S, by simp [lcL, hf l acc S hI], by simpa [← e] using hI⟩
  | x :: xs, l, acc, S, e, hI => by
    obtain ⟨ρ1, k, S1, h1, h2, h3, h4⟩ := hs l x xs acc S e hI
    rw [lcL, if_pos (hf l acc S hI), h1]
    simp only [h2, Res.calm_ok, Res.bind_ok]
    have e' : (l ++ [x]) ++ xs = full := by simpa using e
    cases k with
    | false =>
      rw [if_neg Bool.false_ne_true]
      exact lcL_inv full I hf hs xs _ acc S1 e' (h3 rfl)
    | true =>
      obtain ⟨y, S2, z, S3, h5, h6, h7, h8⟩ := h4 rfl
      rw [if_pos rfl, h5]
      simp only [Res.calm_ok, Res.bind_ok, h6]
      rw [if_pos h7]
      exact lcL_inv full I hf hs xs _ _ S3 e' h8
theorem dLc_inv {d : DI} {S S1 : Store} (hd : d ρ S = .ok f S1) (hf1 : f S1 = some all) (I : List PV → List PV → Store → Prop) (hf : ∀ l acc S, I l acc S → f S = some all) (h0 : I [] [] S1)
    (hs : ∀ l x r acc S, l ++ x :: r = all → I l acc S → ∃ ρ1 k S1, g x (wipeP ρ vs) = some ρ1 ∧ t ρ1 S = .ok k S1 ∧ (k = false → I (l ++ [x]) acc S1) ∧ (k = true → ∃ y S2 z S3, el ρ1 S1 = .ok y S2 ∧ bnd y S2 = .ok z S3 ∧ acc.length < 16777216 ∧ I (l ++ [x]) (acc ++ [z]) S3)) :
    ∃ ys S', dLc d g t el vs ρ S = .ok (.tmp ys) S' ∧ I all ys S' := by
  obtain ⟨ys, S', h1, h2⟩ := lcL_inv (vs := vs) (ρ := ρ) all I hf hs all [] [] S1 rfl h0
  refine ⟨ys, S', ?_, h2⟩
  unfold dLc
  rw [hd]
  simp only [Res.bind_ok, hf1, h1]
end
/-! ### for -/
section
variable {f : SF} {all : List PV} {g : DG} {b : DS}
/-- with a word that goes along; the body goes on -/
theorem forL_inv (full : List PV) (I : List PV → LEnv → Store → Prop) (hf : ∀ l ρ S, I l ρ S → f S = some all)
    (hs : ∀ l x r ρ S, l ++ x :: r = full → I l ρ S → ∃ ρ1 ρ2 S2, g x ρ = some ρ1 ∧ (b ρ1 S = .ok (.nx ρ2) S2 ∨ b ρ1 S = .ok (.ct ρ2) S2) ∧ I (l ++ [x]) ρ2 S2) : ∀ (xs l : List PV) (ρ : LEnv) (S : Store), l ++ xs = full → I l ρ S →
    ∃ ρ' S', forL f all g b xs ρ S = .ok (.nx ρ') S' ∧ I full ρ' S'
  | [], l, ρ, S, e, hI => ⟨ρ, S, by simp [forL, hf l ρ S hI], by simpa [← e] using hI⟩
  | x :: xs, l, ρ, S, e, hI => by
    obtain ⟨ρ1, ρ2, S2, h1, h2, h3⟩ := hs l x xs ρ S e hI
    have e' : (l ++ [x]) ++ xs = full := by simpa using e
    rw [forL, if_pos (hf l ρ S hI), h1]
    have ih := forL_inv full I hf hs xs _ ρ2 S2 e' h3
    rcases h2 with h2 | h2 <;> (simp only [h2, Res.bind_ok]; exact ih)
theorem dFor_inv {d : DI} {ρ : LEnv} {S S1 : Store} (hd : d ρ S = .ok f S1) (hf1 : f S1 = some all) (I : List PV → LEnv → Store → Prop) (hf : ∀ l ρ S, I l ρ S → f S = some all) (h0 : I [] ρ S1)
    (hs : ∀ l x r ρ S, l ++ x :: r = all → I l ρ S → ∃ ρ1 ρ2 S2, g x ρ = some ρ1 ∧ (b ρ1 S = .ok (.nx ρ2) S2 ∨ b ρ1 S = .ok (.ct ρ2) S2) ∧ I (l ++ [x]) ρ2 S2) :
    ∃ ρ' S', dFor d g b ρ S = .ok (.nx ρ') S' ∧ I all ρ' S' := by
  obtain ⟨ρ', S', h1, h2⟩ := forL_inv all I hf hs all [] ρ S1 rfl h0
  refine ⟨ρ', S', ?_, h2⟩
  unfold dFor
  rw [hd]
  simp only [Res.bind_ok, hf1, h1]
/-- each item goes on or the loop is left with v; the store stays -/
theorem forL_ret {S : Store} (hf : f S = some all) (p : PV → Bool) (v : PV) (I : LEnv → Prop) : ∀ (xs : List PV) (ρ : LEnv), I ρ →
    (∀ x ∈ xs, ∀ ρ, I ρ → ∃ ρ1, g x ρ = some ρ1 ∧ if p x = true then ∃ ρ2, b ρ1 S = .ok (.nx ρ2) S ∧ I ρ2 else b ρ1 S = .ok (.rt v) S) →
    if xs.all p = true then ∃ ρ', forL f all g b xs ρ S = .ok (.nx ρ') S ∧ I ρ' else forL f all g b xs ρ S = .ok (.rt v) S
  | [], ρ, hI, _ => by simp [forL, hf, hI]
  | x :: xs, ρ, hI, hs => by
    obtain ⟨ρ1, h1, h2⟩ := hs x List.mem_cons_self ρ hI
    by_cases hp : p x = true
    · rw [if_pos hp] at h2
      obtain ⟨ρ2, h3, h4⟩ := h2
      have ih := forL_ret hf p v I xs ρ2 h4 fun y hy => hs y (List.mem_cons_of_mem _ hy)
      simp only [forL, hf, if_true, h1, h3, Res.bind_ok, List.all_cons, hp, Bool.true_and]
      exact ih
    · rw [if_neg hp] at h2
      simp only [forL, hf, if_true, h1, h2, Res.bind_ok, List.all_cons]
      simp [hp]
theorem dFor_ret {d : DI} {ρ : LEnv} {S S1 : Store} (hd : d ρ S = .ok f S1) (hf : f S1 = some all) (p : PV → Bool) (v : PV) (I : LEnv → Prop) (h0 : I ρ)
    (hs : ∀ x ∈ all, ∀ ρ, I ρ → ∃ ρ1, g x ρ = some ρ1 ∧ if p x = true then ∃ ρ2, b ρ1 S1 = .ok (.nx ρ2) S1 ∧ I ρ2 else b ρ1 S1 = .ok (.rt v) S1) :
    if all.all p = true then ∃ ρ', dFor d g b ρ S = .ok (.nx ρ') S1 ∧ I ρ' else dFor d g b ρ S = .ok (.rt v) S1 := by
  have := forL_ret hf p v I all ρ h0 hs
  unfold dFor
  rw [hd]
  simp only [Res.bind_ok, hf]
  exact this
end
/-! ### what is forgotten at a def's end -/
section
variable {S S1 E : Store} {x : PV}
@[simp] theorem cVs_all (n : Nat) (xs : List PV) : cVs n xs = xs.all (cV n) := by induction xs <;> simp_all [cVs]
@[simp] theorem cV_non {n : Nat} : cV n .non = true := rfl
@[simp] theorem cV_bl {n : Nat} {b : Bool} : cV n (.bl b) = true := rfl
@[simp] theorem cV_int {n : Nat} {b : Int} : cV n (.int b) = true := rfl
@[simp] theorem cV_str {n : Nat} {b : Str} : cV n (.str b) = true := rfl
@[simp] theorem cV_glo {n : Nat} {b : Str} : cV n (.glo b) = true := rfl
@[simp] theorem cV_tup {n : Nat} {xs : List PV} : cV n (.tup xs) = xs.all (cV n) := by simp [cV]
@[simp] theorem cV_frz {n : Nat} {xs : List PV} : cV n (.frz xs) = xs.all (cV n) := by simp [cV]
@[simp] theorem cV_tmp {n : Nat} {xs : List PV} : cV n (.tmp xs) = xs.all (cV n) := by simp [cV]
@[simp] theorem cV_ref {n : Nat} {k : Kind} {i : Nat} : cV n (.ref k i) = decide (i < n) := by simp [cV]
theorem outV_closed {n : Nat} (h : cV n x = true) : outV n x S1 = x := by
  cases x with
  | ref k i =>
    have hi : i < n := by simpa using h
    cases k <;> simp [outV] <;> omega
  | _ => rfl
theorem gc_app (hx : cV S.length x = true) : gc S x (S ++ E) = .ok x S := by
  unfold gc
  rw [outV_closed hx, if_pos ⟨fun i c hi h => .inl (by rw [List.getElem?_append_left hi] at h; exact h), hx⟩]
  simp
theorem gc_same (hx : cV S.length x = true) : gc S x S = .ok x S := by
  have := gc_app (S := S) (E := []) hx
  simpa using this
theorem gc_tmp {xs : List PV} (hx : cV S.length (.tmp xs) = true) : gc S (.tmp xs) (S ++ E) = .ok (.tmp xs) S := gc_app hx
theorem gc_new {i : Nat} {xs : List PV} (hi : S.length ≤ i) (he : (S ++ E)[i]? = some (.lst xs)) (hx : xs.all (cV S.length) = true) : gc S (.ref .lst i) (S ++ E) = .ok (.tmp xs) S := by
  have e : outV S.length (.ref .lst i) (S ++ E) = .tmp xs := by simp [outV, hi, he]
  unfold gc
  rw [e, if_pos ⟨fun i c hi h => .inl (by rw [List.getElem?_append_left hi] at h; exact h), by simpa using hx⟩]
  simp
@[simp] theorem gc_bl {b : Bool} : gc S (.bl b) S = .ok (.bl b) S := gc_same rfl
@[simp] theorem gc_int {b : Int} : gc S (.int b) S = .ok (.int b) S := gc_same rfl
@[simp] theorem gc_str {b : Str} : gc S (.str b) S = .ok (.str b) S := gc_same rfl
@[simp] theorem gc_non : gc S .non S = .ok .non S := gc_same rfl
@[simp] theorem gc_blE {b : Bool} : gc S (.bl b) (S ++ E) = .ok (.bl b) S := gc_app rfl
@[simp] theorem gc_intE {b : Int} : gc S (.int b) (S ++ E) = .ok (.int b) S := gc_app rfl
@[simp] theorem gc_strE {b : Str} : gc S (.str b) (S ++ E) = .ok (.str b) S := gc_app rfl
@[simp] theorem gc_nonE : gc S .non (S ++ E) = .ok .non S := gc_app rfl
end
/-! ### == with [] -/
section
variable {S : Store} {xs : List PV} {ds : List PyData}
theorem eqv_nil (ds : List PyData) : PyData.eqv (.list ds) (.list []) = ds.isEmpty := by cases ds <;> rfl
theorem datsB_len {g : Nat → Option PyData} : ∀ {xs : List PV} {ds : List PyData}, datsB g xs = some ds → ds.isEmpty = xs.isEmpty
  | [], _, h => by cases h; rfl
  | x :: xs, ds, h => by
    simp only [datsB, Option.bind_eq_some_iff, Option.map_eq_some_iff] at h
    obtain ⟨d, _, r, _, rfl⟩ := h
    rfl
theorem eqD_nil {x : PV} (h : dat S x = some (.list ds)) : eqD S x (.tmp []) = some ds.isEmpty := by
  unfold eqD
  rw [h]
  have e : dat S (.tmp []) = some (.list []) := rfl
  rw [e]
  have hd : (PyData.list []).depth ≤ 64 := by decide
  have hm := Nat.min_le_right (PyData.list ds).depth (PyData.list []).depth
  simp only
  rw [if_pos (by omega), eqv_nil]
theorem eqD_nil_tmp (h : dats S xs = some ds) : eqD S (.tmp xs) (.tmp []) = some xs.isEmpty := by
  rw [eqD_nil (ds := ds) (by simp [dat, datB]; exact h)]
  rw [datsB_len h]
theorem eqD_nil_ref {n : Nat} (hS : S[n]? = some (.lst xs)) (h : datsB (cellD S 11) xs = some ds) : eqD S (.ref .lst n) (.tmp []) = some xs.isEmpty := by
  have e : dat S (.ref .lst n) = some (.list ds) := by
    show cellD S 12 n = _
    rw [cellD, hS]
    simp only [h, Option.map_some]
  rw [eqD_nil e, datsB_len h]
@[simp] theorem blsOf_map' {α : Type} (p : α → Bool) (xs : List α) : blsOf (xs.map fun x => PV.bl (p x)) = some (xs.map p) := by induction xs <;> simp_all [blsOf]
@[simp] theorem strsOf_map' {α : Type} (p : α → Str) (xs : List α) : strsOf (xs.map fun x => PV.str (p x)) = some (xs.map p) := by induction xs <;> simp_all [strsOf]
@[simp] theorem intsOf_map' {α : Type} (p : α → Int) (xs : List α) : intsOf (xs.map fun x => PV.int (p x)) = some (xs.map p) := by induction xs <;> simp_all [intsOf]
theorem datsB_all {g : Nat → Option PyData} : ∀ {xs : List PV}, (∀ x ∈ xs, ∃ d, datB g x = some d) → ∃ ds, datsB g xs = some ds
  | [], _ => ⟨[], rfl⟩
  | x :: xs, h => by
    obtain ⟨d, h1⟩ := h x List.mem_cons_self
    obtain ⟨ds, h2⟩ := datsB_all (xs := xs) fun y hy => h y (List.mem_cons_of_mem _ hy)
    exact ⟨d :: ds, by simp [datsB, h1, h2]⟩
theorem datsB_strs {g : Nat → Option PyData} (ss : List Str) : datsB g (ss.map .str) = some (ss.map .str) := by
  induction ss with
  | nil => rfl
  | cons s r ih => simp [datsB, datB, ih]
theorem depthAll_strs (ss : List Str) : PyData.depthAll (ss.map .str) ≤ 1 := by
  induction ss with
  | nil => decide
  | cons s r ih =>
    simp only [List.map_cons, PyData.depthAll, PyData.depth]
    omega
@[simp] theorem oEq_int {i j : Int} : oEq (.int i) (.int j) S = some (.bl (decide (i = j))) := by
  have h : min (PyData.int i).depth (PyData.int j).depth ≤ 64 := Nat.le_trans (Nat.min_le_left _ _) (by simp [PyData.depth])
  simp only [oEq, eqD, dat, datB]
  rw [if_pos h]
  rfl
@[simp] theorem oNe_int {i j : Int} : oNe (.int i) (.int j) S = some (.bl (!decide (i = j))) := by
  have h : min (PyData.int i).depth (PyData.int j).depth ≤ 64 := Nat.le_trans (Nat.min_le_left _ _) (by simp [PyData.depth])
  simp only [oNe, eqD, dat, datB]
  rw [if_pos h]
  rfl
@[simp] theorem oEq_str {i j : Str} : oEq (.str i) (.str j) S = some (.bl (decide (i = j))) := by
  have h : min (PyData.str i).depth (PyData.str j).depth ≤ 64 := Nat.le_trans (Nat.min_le_left _ _) (by simp [PyData.depth])
  simp only [oEq, eqD, dat, datB]
  rw [if_pos h]
  rfl
@[simp] theorem oNe_str {i j : Str} : oNe (.str i) (.str j) S = some (.bl (!decide (i = j))) := by
  have h : min (PyData.str i).depth (PyData.str j).depth ≤ 64 := Nat.le_trans (Nat.min_le_left _ _) (by simp [PyData.depth])
  simp only [oNe, eqD, dat, datB]
  rw [if_pos h]
  rfl
@[simp] theorem oEq_bl {i j : Bool} : oEq (.bl i) (.bl j) S = some (.bl (i == j)) := by
  have h : min (PyData.bool i).depth (PyData.bool j).depth ≤ 64 := Nat.le_trans (Nat.min_le_left _ _) (by simp [PyData.depth])
  simp only [oEq, eqD, dat, datB]
  rw [if_pos h]
  rfl
@[simp] theorem oNe_bl {i j : Bool} : oNe (.bl i) (.bl j) S = some (.bl (!(i == j))) := by
  have h : min (PyData.bool i).depth (PyData.bool j).depth ≤ 64 := Nat.le_trans (Nat.min_le_left _ _) (by simp [PyData.depth])
  simp only [oNe, eqD, dat, datB]
  rw [if_pos h]
  rfl
@[simp] theorem seqOf_tup : seqOf (.tup xs) S = some xs := rfl
@[simp] theorem seqOf_tmp : seqOf (.tmp xs) S = some xs := rfl
@[simp] theorem lstOf_tmp : lstOf (.tmp xs) S = some xs := rfl
@[simp] theorem seqOf_frz : seqOf (.frz xs) S = some xs := rfl
@[simp] theorem lstOf_frz : lstOf (.frz xs) S = some xs := rfl
@[simp] theorem lstOf_tup : lstOf (.tup xs) S = none := rfl
@[simp] theorem lstOf_ref {n : Nat} : lstOf (.ref .lst n) S = match S[n]? with | some (.lst xs) => some xs | _ => none := rfl
@[simp] theorem seqOf_ref {n : Nat} : seqOf (.ref .lst n) S = match S[n]? with | some (.lst xs) => some xs | _ => none := rfl
@[simp] theorem isT_non {T : BT} : isT T .non = some false := rfl
@[simp] theorem isT_bl {T : BT} {b : Bool} : isT T (.bl b) = some (match T with | .bool => true | .int => true | _ => false) := rfl
@[simp] theorem isT_int {T : BT} {b : Int} : isT T (.int b) = some (match T with | .int => true | _ => false) := rfl
@[simp] theorem isT_str {T : BT} {b : Str} : isT T (.str b) = some (match T with | .str => true | _ => false) := rfl
@[simp] theorem isT_tup {T : BT} : isT T (.tup xs) = some (match T with | .tuple => true | _ => false) := rfl
@[simp] theorem isT_frz {T : BT} : isT T (.frz xs) = some (match T with | .list => true | _ => false) := rfl
@[simp] theorem isT_tmp {T : BT} : isT T (.tmp xs) = some (match T with | .list => true | _ => false) := rfl
@[simp] theorem isT_ref {T : BT} {n : Nat} : isT T (.ref .lst n) = some (match T with | .list => true | _ => false) := rfl
@[simp] theorem dMeth2_eq {g : OM} {d : DE} {r : DA} {ρ : LEnv} : dMeth2 g d r ρ S = (d ρ S).bind fun x S1 => if isT .list x = some true ∨ isT .tuple x = some true then (r ρ S1).bind fun xs S2 => ofP (g x xs S2) else .bad := rfl
@[simp] theorem fLen_tup : fLen [.tup xs] S = some (.int xs.length) := rfl
@[simp] theorem fLen_tmp : fLen [.tmp xs] S = some (.int xs.length) := rfl
@[simp] theorem fLen_frz : fLen [.frz xs] S = some (.int xs.length) := rfl
theorem fLen_ref {n : Nat} (h : S[n]? = some (.lst xs)) : fLen [.ref .lst n] S = some (.int xs.length) := by simp [fLen, h]
@[simp] theorem fAll_bls {α : Type} (p : α → Bool) (xs : List α) : fAll [.tmp (xs.map fun x => .bl (p x))] S = some (.bl (xs.all p)) := by simp [fAll, List.all_map, Function.comp_def]
@[simp] theorem oLe_int {i j : Int} : oLe (.int i) (.int j) S = some (.bl (decide (i ≤ j))) := rfl
@[simp] theorem oLt_int {i j : Int} : oLt (.int i) (.int j) S = some (.bl (decide (i < j))) := rfl
@[simp] theorem oGe_int {i j : Int} : oGe (.int i) (.int j) S = some (.bl (decide (j ≤ i))) := rfl
@[simp] theorem oGt_int {i j : Int} : oGt (.int i) (.int j) S = some (.bl (decide (j < i))) := rfl
@[simp] theorem oAdd_int {i j : Int} : oAdd (.int i) (.int j) S = some (.int (i + j)) := rfl
@[simp] theorem oSub_int {i j : Int} : oSub (.int i) (.int j) S = some (.int (i - j)) := rfl
@[simp] theorem fSorted_tup {ss : List Str} : fSorted [.tup (ss.map .str)] S = some (.tmp ((sortS ss).map .str)) := by simp [fSorted, -List.map_map]
@[simp] theorem fSorted_tmp {ss : List Str} : fSorted [.tmp (ss.map .str)] S = some (.tmp ((sortS ss).map .str)) := by simp [fSorted, -List.map_map]
@[simp] theorem fTuple_tmp : fTuple [.tmp xs] S = some (.tup xs) := rfl
end
end Z

set_option Elab.async false
set_option linter.all false
set_option maxRecDepth 100000
set_option maxHeartbeats 2000000
/-! # ZN: enumerate and zip over lists and tuples alike -/
namespace Z
open PySem PySem.Spec PyProof.Rows L2

/-! ### a list (false) or a tuple (true) -/
def SqB : Bool → PySem.W.Frag → Hp → Addr → List V → Prop
  | false => SqL
  | true => SqT
def ItB : Bool → Heap → Addr → Addr → Nat → Prop
  | false => fun h it a i => h.IsListIter it a i
  | true => fun h it a i => h.IsTupleIter it a i
def ArB : Bool → Heap → Addr → Array Value → Prop
  | false => fun h a xs => h.IsList a xs
  | true => fun h a xs => h.IsTuple a xs
def itObj (b : Bool) (a : Addr) : Obj := { cls := .type (if b then "tuple_iterator" else "list_iterator"), data := .fields #[.ref a, .int 0 0] }
theorem ItB.of {b : Bool} {h : Heap} {it a : Addr} (e : h.get? it = some (itObj b a)) : ItB b h it a 0 := by
  cases b
  · exact ⟨_, e, rfl, rfl⟩
  · exact ⟨_, e, rfl, rfl⟩
theorem ItB.at {b : Bool} {h h' : Heap} {it a : Addr} {i : Nat} (x : ItB b h it a i) (k : ∀ o, h.get? it = some o → h'.get? it = some o) : ItB b h' it a i := by
  cases b
  · exact Heap.IsListIter.at x k
  · exact Heap.IsTupleIter.at x k
theorem ItB.obj {b : Bool} {h : Heap} {it a : Addr} {i : Nat} (x : ItB b h it a i) : ∃ o, h.get? it = some o ∧ (∀ v, o.data ≠ .cell v) ∧ (o.cls = .type "list_iterator" ∨ o.cls = .type "tuple_iterator") := by
  cases b
  · obtain ⟨o, e, c, d⟩ := x
    exact ⟨o, e, fun v z => (by rw [d] at z; cases z), .inl c⟩
  · obtain ⟨o, e, c, d⟩ := x
    exact ⟨o, e, fun v z => (by rw [d] at z; cases z), .inr c⟩
theorem ArB.cls {b : Bool} {h : Heap} {a : Addr} {xs : Array Value} (x : ArB b h a xs) : ∃ o, h.get? a = some o ∧ (o.cls = .type "list" ∨ o.cls = .type "tuple") := by
  cases b
  · obtain ⟨o, e, c, _⟩ := x
    exact ⟨o, e, .inl c⟩
  · obtain ⟨o, e, c, _⟩ := x
    exact ⟨o, e, .inr c⟩
theorem apartB {b b' : Bool} {h : Heap} {it a a' : Addr} {i : Nat} {xs : Array Value} (x : ItB b h it a i) (y : ArB b' h a' xs) : a' ≠ it := fun z => by
  obtain ⟨o, e, _, c⟩ := x.obj
  obtain ⟨o', e', c'⟩ := y.cls
  rw [z, e] at e'
  cases e'
  rcases c with c | c <;> rcases c' with c' | c' <;> (rw [c] at c'; exact absurd (Value.type.inj c') (by decide))
theorem apartE {b' : Bool} {h : Heap} {e it a' : Addr} {i : Int} {old : Value} {xs : Array Value} (x : IsEnum h e it i old) (y : ArB b' h a' xs) : a' ≠ e := fun z => by
  obtain ⟨o', e', c'⟩ := y.cls
  have x' : h.get? e = some _ := x
  rw [z, x'] at e'
  cases e'
  rcases c' with c' | c' <;> exact absurd (Value.type.inj c') (by decide)
theorem sqB {b : Bool} {X : Cx} {pins : List (Addr × Obj)} {σ : L2.St} {H : Hp} {s : Shared} {a : Addr} {xs : List V} (I : Inv X pins σ H s) (h : SqB b X.K H a xs) : ∃ its : List Value, Vals xs its ∧ ArB b s.heap a its.toArray := by
  cases b
  · obtain ⟨its, r, p, _⟩ := I.list h
    exact ⟨its, r, p.isList⟩
  · obtain ⟨its, r, p, _⟩ := I.tuple h
    exact ⟨its, r, p⟩
theorem sqB_inj {b : Bool} {X : Cx} {pins : List (Addr × Obj)} {σ : L2.St} {H : Hp} {s : Shared} {a : Addr} {xs ys : List V} (I : Inv X pins σ H s) (h : SqB b X.K H a xs) (h2 : SqB b X.K H a ys) : xs = ys := by
  cases b
  · exact I.list_inj h h2
  · exact I.tuple_inj h h2
theorem drawsB {prog : Program} {w : World} {A : Around} (b : Bool) (hh : A.handled = none) (it a : Addr) (hne : a ≠ it) (items : Array Value) :
    Draws prog w A it [it, a] items.size (fun i v => items[i]? = some v) (fun i h => ItB b h it a i ∧ ArB b h a items) := by
  cases b
  · exact Draws.list hh it a hne items
  · exact Draws.tuple hh it a hne items
theorem beginsB (b : Bool) (a : Addr) (items : Array Value) : Begins (.ref a) (itObj b a) (fun h => ArB b h a items) := by
  cases b
  · exact begins_list a items
  · exact begins_tuple a items
/-! ### enumerate -/
set_option maxHeartbeats 1000000 in
theorem meets_enu {v : Value} {o : Obj} {G : Heap → Prop} (B : Begins v o G) :
    Meets (Builtin.«enumerate.__new__» ⟨[.type "enumerate", v], []⟩) (fun _ R s => G s.heap ∧
      R (.ok (.ret (.ref (s.heap.push o).objs.size))) { s with heap := (s.heap.push o).push { cls := .type "enumerate", data := .fields #[.none, .bool false, .ref s.heap.objs.size, rawInt 0, .none, .none] } }) :=
  .of_wp fun prog w A R s h => by
    obtain ⟨hp, g, d, tk, os⟩ := s
    obtain ⟨h1, h⟩ := h
    have hsub := sub_enumerate
    have q1 : ∀ {A' : Around} {E : Value → Shared → Prop} {Q : Value → Shared → Prop}, Q (.ref hp.objs.size) ⟨hp.push o, g, d, tk, os⟩ → wpAny (model prog w) A' (pyIter v) Q E ⟨hp, g, d, tk, os⟩ := fun q => B.iter prog w _ _ ⟨hp, g, d, tk, os⟩ _ h1 q
    wp_walk using q1
    refine wpAny_stack_any fun st => wpAny_pure ?_
    split
    · rename_i c _ _ _ _ _
      cases (c == Value.type "enumerate") <;> (wp_walk using q1; exact ⟨_, rfl, h⟩)
    · wp_walk using q1; exact ⟨_, rfl, h⟩
theorem call_enu {prog : Program} {w : World} {A : Around} {E : Value → Shared → Prop} {s : Shared} {v : Value} {o : Obj} {G : Heap → Prop} {Q : Value → Shared → Prop} (B : Begins v o G) (h1 : G s.heap)
    (h : ∀ h', IsEnum h' (s.heap.objs.size + 1) s.heap.objs.size 0 .none → h'.get? s.heap.objs.size = some o → (∀ b o, s.heap.get? b = some o → h'.get? b = some o) → Q (.ref (s.heap.objs.size + 1)) { s with heap := h' }) :
    wpAny (model prog w) A (call (.type "enumerate") [v]) Q E s := by
  refine callType_new F.called_enumerate (by decide) (F.typeCall_enumerate_1 _) (F.newCall_enumerate_1 _) (fun obj => F.args_object_init_2 obj _) F.entry_enumerate_new (meets_enu B) ⟨h1, ?_⟩
  have z1 : (s.heap.push o).objs.size = s.heap.objs.size + 1 := Heap.size_push ..
  show _ ∧ _
  rw [z1]
  have he : IsEnum ((s.heap.push o).push { cls := .type "enumerate", data := .fields #[.none, .bool false, .ref s.heap.objs.size, rawInt 0, .none, .none] }) (s.heap.objs.size + 1) s.heap.objs.size 0 .none := by
    have z2 := Heap.get?_push_size (s.heap.push o) (o := { cls := .type "enumerate", data := .fields #[.none, .bool false, .ref s.heap.objs.size, rawInt 0, .none, .none] }) rfl
    rw [z1] at z2
    exact z2
  exact ⟨⟨_, he, rfl⟩, h _ he (Heap.get?_push_of_some _ (Heap.get?_push_size _ B.free)) fun b o x => Heap.get?_push_of_some _ (Heap.get?_push_of_some _ x)⟩
def IteB (b : Bool) (K : PySem.W.Frag) (a : Addr) : It :=
  ⟨fun i H => ∃ (xs : List V) (x : V), SqB b K H a xs ∧ xs[i]? = some x, fun i H v H' => ∃ t x, v = .ref t ∧ H t = none ∧ H' = upd H t (.tup [.int (i : Nat), x]) ∧ ∀ xs, SqB b K H a xs → xs[i]? = some x, fun i H => ∃ xs : List V, SqB b K H a xs ∧ xs.length = i⟩
theorem turn_enuB {P : Program} {w : World} {K : PySem.W.Frag} {elts : List Expr} {kk : Nat} {tpos : Pos} (b : Bool) (a e it : Addr) :
    Turn P w K (.Tuple elts kk tpos) (IteB b K a) [e, it] e (fun i h => (∃ old, IsEnum h e it ((i : Nat) : Int) old) ∧ ItB b h it a i ∧ e ≠ it) where
  mem := by simp
  obj := fun i h st c hc => by
    obtain ⟨⟨old, he⟩, hi, _⟩ := st
    rcases (show c = e ∨ c = it by simpa using hc) with z | z
    · rw [z]; exact ⟨_, he, fun v q => nomatch q⟩
    · rw [z]; obtain ⟨o, q, d, _⟩ := hi.obj; exact ⟨o, q, d⟩
  keep := fun i h h' st k => ⟨st.1.imp fun old he => k e (by simp) _ he, st.2.1.at fun o q => k it (by simp) o q, st.2.2⟩
  item := by
    intro X hP hw hK hc i pins s σ H E I hf st hg
    subst hP hw hK
    obtain ⟨⟨old, he⟩, hit, hne⟩ := st
    obtain ⟨xs, x, hq, hx⟩ := hg
    obtain ⟨its, rv, p⟩ := sqB I hq
    obtain ⟨u, hu, ru⟩ := rv.get hx
    have hel : e < s.heap.objs.size := Heap.lt_size he
    have hil : it < s.heap.objs.size := by obtain ⟨_, q, _⟩ := hit.obj; exact Heap.lt_size q
    have n1 : a ≠ it := apartB hit p
    have n2 : a ≠ e := apartE he p
    have hlt : i < its.toArray.size := by
      have := (List.getElem?_eq_some_iff.mp hx).1
      rw [List.size_toArray, ← rv.length]; exact this
    have hh : X.A.in1.handled = none := by show X.A.handled = none; exact I.ok.hd hc
    refine wpAny_pyNext_enum_itemD (drawsB b hh it a n1 its.toArray) he ⟨hit, p⟩ hlt hne (by simp [hne, Ne.symm n2]) fun y h' tk hy ho hst' hT hsz hk => ?_
    have ey : y = u := by
      have h1 : its.toArray[i]? = some u := by simpa using hu
      have hy : its.toArray[i]? = some y := hy
      rw [h1] at hy; cases hy; rfl
    subst ey
    refine ⟨_, rfl, wpAny_letOwnedTupleGo_enum (s := { s with heap := h', toks := tk + 1 }) ho fun h'' he' sb => ?_⟩
    have hT2 : h''.get? s.heap.objs.size = some { cls := .type "tuple", data := .seq #[.int i tk, y] } := (sb.2 _ (Nat.ne_of_gt hel)).trans hT
    have new : ObjOk X.prog X.w (upd H s.heap.objs.size (.tup [.int (i : Nat), x])) h'' s.heap.objs.size (.tup [.int (i : Nat), x]) :=
      ⟨by show 2 ≤ sizeLine; decide, [.int i tk, y], .cons ⟨_, rfl⟩ (.cons ru .nil), ⟨_, hT2, rfl, _, rfl⟩⟩
    have I1 : Inv X pins σ (upd H s.heap.objs.size (.tup [.int (i : Nat), x])) { s with heap := h'', toks := tk + 1 } :=
      I.turnedNew (ch := [e, it]) (fun c ob hb q => (sb.2 c (fun z => hb (by simp [z]))).trans (hk c ob (fun z => hb (by simp [z])) (fun z => hb (by simp [z])) q)) hf (Nat.le_refl _) new
    refine ⟨.ref s.heap.objs.size, _, I1, rfl, ⟨_, x, rfl, I.hok.fresh (Nat.le_refl _), rfl, fun ys hy' => by rw [sqB_inj I hy' hq]; exact hx⟩, ⟨⟨y, ?_⟩, hst'.1.at fun o q => (sb.2 it (Ne.symm hne)).trans q, hne⟩, fun c hcm => ?_⟩
    · have e1 : ((i + 1 : Nat) : Int) = (i : Int) + 1 := by omega
      rw [e1]; exact he'
    · have hlt' : c < s.heap.objs.size := by
        rcases (show c = e ∨ c = it by simpa using hcm) with z | z
        · rw [z]; exact hel
        · rw [z]; exact hil
      rw [upd_ne (Nat.ne_of_lt hlt')]
      exact (hf c hcm).1
  done := by
    intro X hP hw hK hc i pins s σ H E I hf st hg
    subst hP hw hK
    obtain ⟨⟨old, he⟩, hit, hne⟩ := st
    obtain ⟨xs, hq, hx⟩ := hg
    obtain ⟨its, rv, p⟩ := sqB I hq
    have n1 : a ≠ it := apartB hit p
    obtain ⟨f0, f1, f2, f3, f4, f5⟩ := hf it (by simp)
    have hn : its.toArray.size = i := by rw [List.size_toArray, ← rv.length, hx]
    have hh : X.A.in1.handled = none := by show X.A.handled = none; exact I.ok.hd hc
    refine wpAny_pyNext_enum_endD (drawsB b hh it a n1 its.toArray) he (by rw [hn]; exact ⟨hit, p⟩) fun h' eb => ⟨rfl, I.turned (t' := s.toks) (fun c o hb q => eb c o hb q) f0 f1 f3 f4 f5⟩
  self := fun A i s Q E st h => let ⟨⟨_, he⟩, _⟩ := st; wpAny_pyIter_enum he h
theorem pi_enuB {X : Cx} {e : Expr} {ta : TA} {p pos tpos : Pos} {elts : List Expr} {kk : Nat} (hg : Gl X "enumerate") (hm : X.mg "enumerate" = none) (ha : PA X [e] ta) (hs : starEach [e] X.env = [(false, eval e X.env)] := by rfl) :
    PI X (.Tuple elts kk tpos) (.Call (.Name "enumerate" p) [e] [] pos) (fun σ H R => ta σ H fun vs H1 => ∃ b a xs, vs = [.ref a] ∧ SqB b X.K H1 a xs ∧ R (IteB b X.K a) H1) := by
  refine ⟨fun pins s σ H R I h => ?_⟩
  refine Call_ (ld_blt I hg hm boot_enumerate (PyProof.Rows.callWith_type1 (thn (ha.run pos pins s σ H _ I h) fun us s1 ⟨vs, H1, I1, r1, q1⟩ => ?_) hs rfl))
  obtain ⟨b, a, xs, ex, hq, q⟩ := q1
  subst ex
  obtain rfl := Vals.ref1 r1
  obtain ⟨its, rv, p'⟩ := sqB I1 hq
  refine call_enu (beginsB b a its.toArray) p' fun h' he hit hk => wpAny_pyIter_enum he ?_
  have I2 : Inv X pins σ H1 { s1 with heap := h' } := I1.kept (t' := s1.toks) hk
  refine ⟨s1.heap.objs.size + 1, [s1.heap.objs.size + 1, s1.heap.objs.size], _, _, H1, rfl, I2, turn_enuB b a (s1.heap.objs.size + 1) s1.heap.objs.size, ⟨⟨.none, he⟩, ItB.of hit, Nat.succ_ne_self _⟩, fun c hc => ?_, q⟩
  have hle : s1.heap.objs.size ≤ c := by
    rcases (show c = s1.heap.objs.size + 1 ∨ c = s1.heap.objs.size by simpa using hc) with z | z
    · rw [z]; exact Nat.le_add_right _ _
    · rw [z]; exact Nat.le_refl _
  exact I1.fpOk hle (I1.hok.fresh hle)
/-! ### zip -/
def ItzB (b b' : Bool) (K : PySem.W.Frag) (a a' : Addr) : It :=
  ⟨fun i H => ∃ (xs ys : List V) (x y : V), SqB b K H a xs ∧ SqB b' K H a' ys ∧ xs[i]? = some x ∧ ys[i]? = some y,
    fun i H v H' => ∃ t x y, v = .ref t ∧ H t = none ∧ H' = upd H t (.tup [x, y]) ∧ (∀ xs, SqB b K H a xs → xs[i]? = some x) ∧ ∀ ys, SqB b' K H a' ys → ys[i]? = some y,
    fun i H => ∃ xs ys : List V, SqB b K H a xs ∧ SqB b' K H a' ys ∧ min xs.length ys.length = i⟩
theorem turn_zipB {P : Program} {w : World} {K : PySem.W.Frag} {elts : List Expr} {kk : Nat} {tpos : Pos} (b b' : Bool) {a a' z TI TO i1 i2 : Addr} (D : ZipSep2 z TI TO i1 i2 [i1, a] [i2, a']) :
    Turn P w K (.Tuple elts kk tpos) (ItzB b b' K a a') [z, TI, TO, i1, i2] z (fun i h => IsZip h z TI TO .none ∧ IsTupOf2 h TI (.ref i1) (.ref i2) ∧ (∃ x y, IsTupOf2 h TO x y) ∧ ItB b h i1 a i ∧ ItB b' h i2 a' i) where
  mem := by simp
  obj := fun i h st c hc => by
    obtain ⟨hz, hTI, ⟨x, y, hTO⟩, h1, h2⟩ := st
    rcases (show c = z ∨ c = TI ∨ c = TO ∨ c = i1 ∨ c = i2 by simpa using hc) with rfl | rfl | rfl | rfl | rfl
    · exact ⟨_, hz, fun v q => nomatch q⟩
    · exact ⟨_, hTI, fun v q => nomatch q⟩
    · exact ⟨_, hTO, fun v q => nomatch q⟩
    · obtain ⟨o, q, d, _⟩ := h1.obj; exact ⟨o, q, d⟩
    · obtain ⟨o, q, d, _⟩ := h2.obj; exact ⟨o, q, d⟩
  keep := fun i h h' st k => by
    obtain ⟨hz, hTI, ⟨x, y, hTO⟩, h1, h2⟩ := st
    exact ⟨k z (by simp) _ hz, k TI (by simp) _ hTI, ⟨x, y, k TO (by simp) _ hTO⟩, h1.at fun o q => k i1 (by simp) o q, h2.at fun o q => k i2 (by simp) o q⟩
  item := by
    intro X hP hw hK hc i pins s σ H E I hf st hg
    subst hP hw hK
    obtain ⟨hz, hTI, ⟨x0, y0, hTO⟩, h1, h2⟩ := st
    obtain ⟨xs, ys, x, y, hqx, hqy, hx, hy⟩ := hg
    obtain ⟨its, rv, p⟩ := sqB I hqx
    obtain ⟨its2, rv2, p2⟩ := sqB I hqy
    obtain ⟨u, hu, ru⟩ := rv.get hx
    obtain ⟨u2, hu2, ru2⟩ := rv2.get hy
    have hzl : z < s.heap.objs.size := Heap.lt_size hz
    have hh : X.A.in1.handled = none := by show X.A.handled = none; exact I.ok.hd hc
    have n1 : i < its.toArray.size := by
      have := (List.getElem?_eq_some_iff.mp hx).1
      rw [List.size_toArray, ← rv.length]; exact this
    have n2 : i < its2.toArray.size := by
      have := (List.getElem?_eq_some_iff.mp hy).1
      rw [List.size_toArray, ← rv2.length]; exact this
    refine wpAny_pyNext_zipD2_item D (drawsB b hh i1 a (apartB h1 p) its.toArray) (drawsB b' hh i2 a' (apartB h2 p2) its2.toArray) hz hTI hTO ⟨h1, p⟩ ⟨h2, p2⟩ n1 n2 fun y1 y2 h' tk e1 e2 z' TO' g1 g2 hT hsz hk => ?_
    have ey1 : y1 = u := by
      have q : its.toArray[i]? = some u := by simpa using hu
      have e1 : its.toArray[i]? = some y1 := e1
      rw [q] at e1; cases e1; rfl
    have ey2 : y2 = u2 := by
      have q : its2.toArray[i]? = some u2 := by simpa using hu2
      have e2 : its2.toArray[i]? = some y2 := e2
      rw [q] at e2; cases e2; rfl
    subst ey1 ey2
    refine ⟨_, rfl, wpAny_letOwnedTupleGo_zip (s := { s with heap := h', toks := tk }) z' fun h'' z'' sb => ?_⟩
    have hT2 : h''.get? s.heap.objs.size = some { cls := .type "tuple", data := .seq #[y1, y2] } := (sb.2 _ (Nat.ne_of_gt hzl)).trans hT
    have new : ObjOk X.prog X.w (upd H s.heap.objs.size (.tup [x, y])) h'' s.heap.objs.size (.tup [x, y]) :=
      ⟨by show 2 ≤ sizeLine; decide, [y1, y2], .cons ru (.cons ru2 .nil), ⟨_, hT2, rfl, _, rfl⟩⟩
    have I1 : Inv X pins σ (upd H s.heap.objs.size (.tup [x, y])) { s with heap := h'', toks := tk } :=
      I.turnedNew (ch := [z, TI, TO, i1, i2]) (fun c o hb q => (sb.2 c (fun q' => hb (by simp [q']))).trans (hk c o (fun q' => hb (by simp [q'])) (fun q' => hb (by simp [q'])) (fun q' => hb (by simp [q'])) (fun q' => hb (by simp [q'])) q)) hf (Nat.le_refl _) new
    refine ⟨.ref s.heap.objs.size, _, I1, rfl, ⟨_, x, y, rfl, I.hok.fresh (Nat.le_refl _), rfl, fun l hl => by rw [sqB_inj I hl hqx]; exact hx, fun l hl => by rw [sqB_inj I hl hqy]; exact hy⟩, ⟨z'', ?_, ⟨y1, y2, ?_⟩, ?_, ?_⟩, fun c hcm => ?_⟩
    · exact (sb.2 _ D.TIz).trans (hk _ _ D.TIz D.TITO D.TIi1 D.TIi2 hTI)
    · exact (sb.2 _ D.TOz).trans TO'
    · exact g1.1.at fun o q => (sb.2 _ (Ne.symm D.zi1)).trans q
    · exact g2.1.at fun o q => (sb.2 _ (Ne.symm D.zi2)).trans q
    · have hlt : c < s.heap.objs.size := by
        rcases (show c = z ∨ c = TI ∨ c = TO ∨ c = i1 ∨ c = i2 by simpa using hcm) with rfl | rfl | rfl | rfl | rfl
        · exact hzl
        · exact Heap.lt_size hTI
        · exact Heap.lt_size hTO
        · obtain ⟨_, e1, _⟩ := h1.obj; exact Heap.lt_size e1
        · obtain ⟨_, e2, _⟩ := h2.obj; exact Heap.lt_size e2
      rw [upd_ne (Nat.ne_of_lt hlt)]
      exact (hf c hcm).1
  done := by
    intro X hP hw hK hc i pins s σ H E I hf st hg
    subst hP hw hK
    obtain ⟨hz, hTI, ⟨x0, y0, hTO⟩, h1, h2⟩ := st
    obtain ⟨xs, ys, hqx, hqy, hend⟩ := hg
    obtain ⟨its, rv, p⟩ := sqB I hqx
    obtain ⟨its2, rv2, p2⟩ := sqB I hqy
    have l1 : its.toArray.size = xs.length := by rw [List.size_toArray, ← rv.length]
    have l2 : its2.toArray.size = ys.length := by rw [List.size_toArray, ← rv2.length]
    have hh : X.A.in1.handled = none := by show X.A.handled = none; exact I.ok.hd hc
    exact wpAny_pyNext_zipD2_end D (drawsB b hh i1 a (apartB h1 p) its.toArray) (drawsB b' hh i2 a' (apartB h2 p2) its2.toArray) hz hTI hTO ⟨h1, p⟩ ⟨h2, p2⟩ (by omega) (by omega) (by omega) fun h' tk hk => ⟨rfl, I.turnedL (t' := tk) (ch := [z, TI, TO, i1, i2]) (fun c o hb q =>
      hk c o (fun q' => hb (by simp [q'])) (fun q' => hb (by simp [q'])) (fun q' => hb (by simp [q'])) (fun q' => hb (by simp [q'])) q) hf⟩
  self := fun A i s Q E st h => wpAny_pyIter_zip st.1 h
theorem pi_zipB {X : Cx} {e e2 : Expr} {ta : TA} {p pos tpos : Pos} {elts : List Expr} {kk : Nat} (hg : Gl X "zip") (hm : X.mg "zip" = none) (ha : PA X [e, e2] ta)
    (hs : starEach [e, e2] X.env = (false, eval e X.env) :: starEach [e2] X.env := by rfl) (hpl : (backTo pos (starEach [e2] X.env)).any (·.1) = false := by rfl) :
    PI X (.Tuple elts kk tpos) (.Call (.Name "zip" p) [e, e2] [] pos) (fun σ H R => ta σ H fun vs H1 => ∃ b b' a a' xs ys, vs = [.ref a, .ref a'] ∧ SqB b X.K H1 a xs ∧ SqB b' X.K H1 a' ys ∧ R (ItzB b b' X.K a a') H1) := by
  refine ⟨fun pins s σ H R I h => ?_⟩
  refine Call_ (ld_blt I hg hm boot_zip (PyProof.Rows.callWith_type1 (thn (ha.run pos pins s σ H _ I h) fun us s1 ⟨vs, H1, I1, r1, q1⟩ => ?_) hs hpl))
  obtain ⟨b, b', a, a', xs, ys, ex, hq, hq', q⟩ := q1
  subst ex
  obtain ⟨u1, us', rfl, ru, rus⟩ : ∃ u us', us = u :: us' ∧ RelV (.ref a) u ∧ Vals [V.ref a'] us' := by cases r1 with | cons r rr => exact ⟨_, _, rfl, r, rr⟩
  obtain rfl := Vals.ref1 rus
  cases ru
  obtain ⟨its, rv, p1⟩ := sqB I1 hq
  obtain ⟨its2, rv2, p2⟩ := sqB I1 hq'
  have la : a < s1.heap.objs.size := by obtain ⟨o, e, _⟩ := p1.cls; exact Heap.lt_size e
  have la' : a' < s1.heap.objs.size := by obtain ⟨o, e, _⟩ := p2.cls; exact Heap.lt_size e
  refine zip_begins2 (beginsB b a its.toArray) (beginsB b' a' its2.toArray) p1 p2 fun h' hz hTI hTO g1 g2 hsz hk => wpAny_pyIter_zip hz ?_
  have I2 : Inv X pins σ H1 { s1 with heap := h' } := I1.kept (t' := s1.toks) hk
  refine ⟨s1.heap.objs.size + 4, [s1.heap.objs.size + 4, s1.heap.objs.size + 2, s1.heap.objs.size + 3, s1.heap.objs.size, s1.heap.objs.size + 1], _, _, H1, rfl, I2,
    turn_zipB b b' (zip_sep2 (N := s1.heap.objs.size) (fp1 := [a]) (fp2 := [a']) (by simpa using la) (by simpa using la')), ⟨hz, hTI, ⟨_, _, hTO⟩, ItB.of g1, ItB.of g2⟩, fun c hc => ?_, q⟩
  have hle : s1.heap.objs.size ≤ c := by
    rcases (show c = s1.heap.objs.size + 4 ∨ c = s1.heap.objs.size + 2 ∨ c = s1.heap.objs.size + 3 ∨ c = s1.heap.objs.size ∨ c = s1.heap.objs.size + 1 by simpa using hc) with rfl | rfl | rfl | rfl | rfl
    · exact Nat.le_add_right _ _
    · exact Nat.le_add_right _ _
    · exact Nat.le_add_right _ _
    · exact Nat.le_refl _
    · exact Nat.le_add_right _ _
  exact I1.fpOk hle (I1.hok.fresh hle)
/-! ### as sources -/
section
variable {X : Cx} {T : List (Addr × Str)} {W : WX} {e e2 : Expr} {r : DA} {p pos tpos : Pos} {elts : List Expr} {kk : Nat}
/-- which kind a sequence is, for good -/
def kindB : PV → Bool
  | .tup _ => true
  | _ => false
theorem rx_seqB {Y : Ctx} {H : Hp} {M : Mp} {S : Store} (rs : RS Y H M S) {x : PV} {v : V} {xs : List PV} (h : RX Y H M x v) (ex : seqOf x S = some xs) : ∃ a vs, v = .ref a ∧ SqB (kindB x) Y.K H a vs ∧ RVs Y H M xs vs := by
  cases x with
  | tup ys =>
    obtain ⟨a, vs, e1, h1, h2⟩ := rx_tup h
    cases ex
    exact ⟨a, vs, e1, h1.sqt, h2⟩
  | _ =>
    obtain ⟨a, vs, e1, h1, h2⟩ := rx_lst rs h ex
    exact ⟨a, vs, e1, h1, h2⟩
def iEnu (r : DA) : DI := fun ρ S => (r ρ S).bind fun xs S1 => match xs with
  | [x] => match seqOf x S1 with | some _ => .ok (fun S => (seqOf x S).map enumL) S1 | none => .bad
  | _ => .bad
theorem src_enu {Y : Ctx} {a : Addr} {x : PV} : SrcOk Y true (IteB (kindB x) Y.K a) (fun S => (seqOf x S).map enumL) (fun H M => RX Y H M x (.ref a)) where
  nxt := fun r n => r.nxt n
  go := fun {H M S ys i y} rs r e1 e2 => by
    simp only [Option.map_eq_some_iff] at e1
    obtain ⟨zs, e1, rfl⟩ := e1
    obtain ⟨p, ws, e3, h4, h5⟩ := rx_seqB rs r e1
    cases e3
    obtain ⟨z, e4, rfl⟩ := enumL_get e2
    obtain ⟨w, e5, h6⟩ := h5.get e4
    refine ⟨⟨ws, w, h4, e5⟩, fun v H' ⟨t, x', e6, e7, e8, e9⟩ => ?_⟩
    subst e6 e8
    have := e9 _ h4
    rw [e5] at this; cases this
    exact ⟨same_upd e7, _, t, _, rfl, rfl, .inl (.inl upd_same), RVs.cons (by simp [RV]) (RVs.cons (h6.nxt (Nxt.same (same_upd e7))) RVs.nil)⟩
  stop := fun {H M S ys i} rs r e1 hl' => by
    simp only [Option.map_eq_some_iff] at e1
    obtain ⟨zs, e1, rfl⟩ := e1
    obtain ⟨p, ws, e3, h4, h5⟩ := rx_seqB rs r e1
    cases e3
    exact ⟨ws, h4, by rw [h5.length]; simpa [enumL] using hl'⟩
theorem zi_enu (hg : Gl X "enumerate") (hm : X.mg "enumerate" = none) (ha : ZX X T W [e] r) (hs : starEach [e] X.env = [(false, eval e X.env)] := by rfl) :
    ZI X T W true (.Tuple elts kk tpos) (.Call (.Name "enumerate" p) [e] [] pos) (iEnu r) := (pi_enuB hg hm ha hs).imp fun σ H R ⟨M, ρ, S, rs, re, hh⟩ => by
  refine stepX gOutI rs re hh fun M1 S1 xs vs H1 n1 rs1 re1 rx1 _ h1 => ?_
  split at h1
  · rename_i x
    split at h1
    · rename_i ys hy
      obtain ⟨v, rfl, h2⟩ := rxs1 rx1
      obtain ⟨p, ws, rfl, h4, h5⟩ := rx_seqB rs1 h2 hy
      exact ⟨_, p, ws, rfl, h4, h1 M1 H1 _ _ Nxt.refl rs1 src_enu h2⟩
    · exact h1.elim
  · exact h1.elim
def both (x y : PV) (S : Store) : Option (List PV) := match seqOf x S, seqOf y S with | some xs, some ys => some (zipL xs ys) | _, _ => none
theorem both_some {x y : PV} {S : Store} {zs : List PV} (h : both x y S = some zs) : ∃ xs ys, seqOf x S = some xs ∧ seqOf y S = some ys ∧ zs = zipL xs ys := by
  unfold both at h
  split at h
  · rename_i xs ys e1 e2
    exact ⟨xs, ys, e1, e2, (Option.some.inj h).symm⟩
  · cases h
def iZip2 (r : DA) : DI := fun ρ S => (r ρ S).bind fun xs S1 => match xs with
  | [x, y] => match both x y S1 with | some _ => .ok (both x y) S1 | none => .bad
  | _ => .bad
theorem src_zip2 {Y : Ctx} {a b : Addr} {x y : PV} : SrcOk Y true (ItzB (kindB x) (kindB y) Y.K a b) (both x y) (fun H M => RX Y H M x (.ref a) ∧ RX Y H M y (.ref b)) where
  nxt := fun r n => ⟨r.1.nxt n, r.2.nxt n⟩
  go := fun {H M S ys i z} rs r e1 e2 => by
    obtain ⟨us, ws, e3, e4, rfl⟩ := both_some e1
    obtain ⟨p, l1, e5, h4, h5⟩ := rx_seqB rs r.1 e3
    cases e5
    obtain ⟨p, l2, e5, h6, h7⟩ := rx_seqB rs r.2 e4
    cases e5
    obtain ⟨z1, z2, e6, e7, rfl⟩ := zipL_get e2
    obtain ⟨w1, e8, h8⟩ := h5.get e6
    obtain ⟨w2, e9, h9⟩ := h7.get e7
    refine ⟨⟨l1, l2, w1, w2, h4, h6, e8, e9⟩, fun v H' ⟨t, x', y', q1, q2, q3, q4, q5⟩ => ?_⟩
    subst q1 q3
    have := q4 _ h4
    rw [e8] at this; cases this
    have := q5 _ h6
    rw [e9] at this; cases this
    exact ⟨same_upd q2, _, t, _, rfl, rfl, .inl (.inl upd_same), RVs.cons (h8.nxt (Nxt.same (same_upd q2))) (RVs.cons (h9.nxt (Nxt.same (same_upd q2))) RVs.nil)⟩
  stop := fun {H M S ys i} rs r e1 hl' => by
    obtain ⟨us, ws, e3, e4, rfl⟩ := both_some e1
    obtain ⟨p, l1, e5, h4, h5⟩ := rx_seqB rs r.1 e3
    cases e5
    obtain ⟨p, l2, e5, h6, h7⟩ := rx_seqB rs r.2 e4
    cases e5
    exact ⟨l1, l2, h4, h6, by rw [h5.length, h7.length]; simpa [zipL] using hl'⟩
theorem zi_zip2 (hg : Gl X "zip") (hm : X.mg "zip" = none) (ha : ZX X T W [e, e2] r)
    (hs : starEach [e, e2] X.env = (false, eval e X.env) :: starEach [e2] X.env := by rfl) (hpl : (backTo pos (starEach [e2] X.env)).any (·.1) = false := by rfl) :
    ZI X T W true (.Tuple elts kk tpos) (.Call (.Name "zip" p) [e, e2] [] pos) (iZip2 r) := (pi_zipB hg hm ha hs hpl).imp fun σ H R ⟨M, ρ, S, rs, re, hh⟩ => by
  refine stepX gOutI rs re hh fun M1 S1 xs vs H1 n1 rs1 re1 rx1 _ h1 => ?_
  split at h1
  · split at h1
    · rename_i zs hz
      obtain ⟨us, ws, e3, e4, rfl⟩ := both_some hz
      obtain ⟨v, w, rfl, h2, h3⟩ := rxs2 rx1
      obtain ⟨p, l1, rfl, h4, h5⟩ := rx_seqB rs1 h2 e3
      obtain ⟨q, l2, rfl, h6, h7⟩ := rx_seqB rs1 h3 e4
      exact ⟨_, _, p, q, l1, l2, rfl, h4, h6, h1 M1 H1 _ _ Nxt.refl rs1 src_zip2 ⟨h2, h3⟩⟩
    · exact h1.elim
  · exact h1.elim
end
end Z

set_option Elab.async false
set_option linter.all false
set_option maxRecDepth 100000
set_option maxHeartbeats 2000000
/-! # ZO: xs += ys, x *= y, xs * n -/
namespace Z
open PySem PySem.Spec PyProof.Rows L2

section
variable {X : Cx} {T : List (Addr × Str)} {W : WX} {a b e : Expr} {d : DE} {pos : Pos}
/-- a list that may be changed, tracked at its address -/
def mutOf (x : PV) (S : Store) : Option (List PV) := match x with
  | .tmp xs => some xs
  | .ref .lst n => match S[n]? with | some (.lst xs) => some xs | _ => none
  | _ => none
theorem rx_mut {Y : Ctx} {H : Hp} {M : Mp} {S : Store} (rs : RS Y H M S) {x : PV} {v : V} {xs : List PV} (h : RX Y H M x v) (ex : mutOf x S = some xs) : ∃ a vs, v = .ref a ∧ H a = some (.lst vs) ∧ RVs Y H M xs vs := by
  cases x with
  | tmp ys =>
    obtain ⟨a, vs, e1, h1, _, h3⟩ := h
    cases ex
    exact ⟨a, vs, e1, h1, h3⟩
  | ref k n =>
    cases k with
    | lst =>
      simp only [mutOf] at ex
      split at ex
      · rename_i ys hS
        cases ex
        obtain ⟨vs, e1, h1, h2, _⟩ := rx_cell rs h hS
        exact ⟨_, vs, e1, h1, h2⟩
      · cases ex
    | _ => cases ex
  | _ => cases ex
/-! ### xs * n, and of numbers -/
def oMulZ : O2 := fun x y S => match x, y with
  | .int i, .int j => if (-(2 ^ 64) < i ∧ i < 2 ^ 64) ∨ (-(2 ^ 64) < j ∧ j < 2 ^ 64) then some (.int (i * j)) else none
  | x, .int k => match mutOf x S with | some xs => if -(2 ^ 63) ≤ k ∧ k < 2 ^ 63 ∧ xs.length * k.toNat ≤ 16777216 then some (.tmp (List.replicate k.toNat xs).flatten) else none | none => none
  | _, _ => none
theorem RVs.flat {Y : Ctx} {H : Hp} {M : Mp} {xs : List PV} {vs : List V} (h : RVs Y H M xs vs) : ∀ n : Nat, RVs Y H M (List.replicate n xs).flatten (List.replicate n vs).flatten
  | 0 => RVs.nil
  | n + 1 => by
    rw [List.replicate_succ, List.replicate_succ, List.flatten_cons, List.flatten_cons]
    exact h.append (RVs.flat h n)
theorem oz_mulZ : OpR X (binaryOp .Mult) (rOf (yOf X T) oMulZ) := by
  intro pins s σ H x y v u Q I rx ry ⟨M, S, a, b, z, rs, ra, rb, e, q⟩
  have hsl := lineS
  unfold oMulZ at e
  split at e
  · split at e
    · rename_i hc
      cases e
      cases rx_int ra; cases rx_int rb
      exact op_mul pins s σ H _ _ v u Q I rx ry ⟨_, _, rfl, rfl, hc, q.int rs⟩
    · cases e
  · split at e
    · rename_i xs hx
      split at e
      · rename_i hc
        cases e
        obtain ⟨p, vs, rfl, h1, h2⟩ := rx_mut rs ra hx
        cases rx_int rb
        exact op_rep pins s σ H _ _ v u Q I rx ry ⟨p, _, vs, rfl, rfl, h1, hc.1, hc.2.1, by rw [h2.length]; omega, fun p hp => q.newTmp rs (h2.flat _) hp⟩
      · cases e
    · cases e
  · cases e
/-! ### name op= e -/
abbrev OP := PV → PV → Store → Option (PV × Store)
def rOfP (Y : Ctx) (g : OP) : R2 := fun x y H Q => ∃ M S a b z S', RS Y H M S ∧ RX Y H M a x ∧ RX Y H M b y ∧ g a b S = some (z, S') ∧ OutV Y H M S' z Q
def dAugP (i : Nat) (g : OP) (d : DE) : DS := fun ρ S => match ρ[i]? with
  | some (some x) => (d ρ S).bind fun y S1 => match g x y S1 with | some (z, S2) => (bnd z S2).bind fun z S3 => .ok (.nx (ρ.set i (some z))) S3 | none => .bad
  | _ => .bad
theorem zs_augP {i : Nat} {x : Str} {op : Operator} {g : OP} {pos' : Pos} (hN : X.N.Nodup) (hi : X.N[i]? = some x) (hx : Loc X.env.scope x) (he : ZE X T W e d) (ho : PIp X op (rOfP (yOf X T) g)) (hf : X.fn x = true ∨ X.env.scope.names.lookup x = some .local := by first | exact .inl rfl | exact .inr rfl | assumption) :
    ZS X T W (.AugAssign (.Name x pos') op e pos) (dAugP i g d) := (ps_aug hN hi hx he ho hf).imp fun D σ H ⟨M, ρ, S, rs, re, h⟩ => by
  unfold dAugP at h
  split at h
  · rename_i x hx
    obtain ⟨v, g1, g2⟩ := re.get i x hx
    refine ⟨v, g1, ?_⟩
    refine step gOutS rs re h fun M1 S1 y w H1 n1 rs1 re1 rx1 fr1 _ h1 => ?_
    cases e1 : g x y S1 with
    | none => rw [e1] at h1; exact h1.elim
    | some p =>
      obtain ⟨z, S2⟩ := p
      rw [e1] at h1
      refine ⟨M1, S1, x, y, z, S2, rs1, RX.of (g2.nxt n1), rx1, e1, fun M2 H2 w2 n2 rs2 rz fr => ?_⟩
      obtain ⟨z', S3, M3, eb, n3, rs3, rz'⟩ := bnd_ok n2 rs2 rz fr
      have h1 : OutS (yOf X T) W H1 M1 ((bnd z S2).bind fun z S3 => .ok (.nx (ρ.set i (some z))) S3) D := h1
      rw [eb] at h1
      exact h1 M3 H2 _ n3 rs3 ((re1.nxt n3).set rz' i)
  · exact h.elim
def iAddP : OP := fun x y S => match x, y with
  | .int i, .int j => some (.int (i + j), S)
  | .ref .lst n, y => match S[n]?, mutOf y S with
    | some (.lst xs), some ys => if xs.length + ys.length ≤ 16777216 then some (.ref .lst n, S.set n (.lst (xs ++ ys))) else none
    | _, _ => none
  | _, _ => none
def iSubP : OP := fun x y S => match x, y with | .int i, .int j => some (.int (i - j), S) | _, _ => none
def iMulP : OP := fun x y S => match x, y with | .int i, .int j => if (-(2 ^ 64) < i ∧ i < 2 ^ 64) ∨ (-(2 ^ 64) < j ∧ j < 2 ^ 64) then some (.int (i * j), S) else none | _, _ => none
theorem ipp_add : PIp X .Add (rOfP (yOf X T) iAddP) := by
  intro pins s σ H x y v u Q I rx ry ⟨M, S, a, b, z, S', rs, ra, rb, e, q⟩
  have hsl := lineS
  unfold iAddP at e
  split at e
  · cases e
    cases rx_int ra; cases rx_int rb
    exact ip_add pins s σ H _ _ v u Q I rx ry ⟨_, _, rfl, rfl, q.int rs⟩
  · split at e
    · rename_i xs ys hS hy
      split at e
      · cases e
        obtain ⟨vs, rfl, h1, h2, h3, h4⟩ := rx_cell rs ra hS
        obtain ⟨p, ws, rfl, h5, h6⟩ := rx_mut rs rb hy
        exact iop_ext pins s σ H _ _ v u Q I rx ry ⟨_, p, vs, ws, rfl, rfl, h1, h5, by rw [h2.length, h6.length]; omega, q.cell rs h3 h4 (h2.append h6) (by simp [RV, h4])⟩
      · cases e
    · cases e
  · cases e
theorem ipp_sub : PIp X .Sub (rOfP (yOf X T) iSubP) := by
  intro pins s σ H x y v u Q I rx ry ⟨M, S, a, b, z, S', rs, ra, rb, e, q⟩
  unfold iSubP at e
  split at e
  · cases e
    cases rx_int ra; cases rx_int rb
    exact ip_sub pins s σ H _ _ v u Q I rx ry ⟨_, _, rfl, rfl, q.int rs⟩
  · cases e
theorem ipp_mul : PIp X .Mult (rOfP (yOf X T) iMulP) := by
  intro pins s σ H x y v u Q I rx ry ⟨M, S, a, b, z, S', rs, ra, rb, e, q⟩
  unfold iMulP at e
  split at e
  · split at e
    · rename_i hc
      cases e
      cases rx_int ra; cases rx_int rb
      exact iop_mul pins s σ H _ _ v u Q I rx ry ⟨_, _, rfl, rfl, hc, q.int rs⟩
    · cases e
  · cases e
end
end Z

set_option Elab.async false
set_option linter.all false
set_option maxRecDepth 100000
set_option maxHeartbeats 2000000
/-! # ZP: dicts of ints and texts -/
namespace Z
open PySem PySem.Spec PyProof.Rows L2

def keyOf : PV → Option Key
  | .int i => some (.inl i)
  | .str s => some (.inr s)
  | _ => none
@[simp] theorem keyOf_int {i : Int} : keyOf (.int i) = some (.inl i) := rfl
@[simp] theorem keyOf_str {i : Str} : keyOf (.str i) = some (.inr i) := rfl
@[simp] theorem keyOf_keyP (k : Key) : keyOf (keyP k) = some k := by cases k <;> rfl
theorem keyOf_some {x : PV} {k : Key} (h : keyOf x = some k) : x = keyP k := by
  cases x <;> simp [keyOf] at h <;> subst h <;> rfl
/-- what stands at k -/
def lookP : List PV → List PV → Key → Option PV
  | x :: ks, v :: vs, k => if keyOf x = some k then some v else lookP ks vs k
  | _, _, _ => none
/-- in its place, or at the end -/
def putP (ks vs : List PV) (k : Key) (v : PV) : List PV × List PV :=
  if (ks.any fun x => decide (keyOf x = some k)) = true then (ks, List.zipWith (fun x y => if keyOf x = some k then v else y) ks vs) else (ks ++ [keyP k], vs ++ [v])
section
variable {Y : Ctx} {H H1 : Hp} {M M1 : Mp} {S : Store}
theorem look_val {k : Key} : ∀ {kvs : List (Key × V)} {xs : List PV}, RVs Y H M xs (kvs.map (·.2)) →
    (∀ x, lookP (kvs.map fun p => keyP p.1) xs k = some x → ∃ v, valV kvs k = some v ∧ RV Y H M x v) ∧ (lookP (kvs.map fun p => keyP p.1) xs k = none → valV kvs k = none)
  | [], xs, h => ⟨fun x e => by simp [lookP] at e, fun _ => rfl⟩
  | p :: kvs, xs, h => by
    cases xs with
    | nil => simp [RVs] at h
    | cons x xs =>
      simp only [List.map_cons, RVs] at h
      obtain ⟨v, vr, e, h1, h2⟩ := h
      obtain ⟨rfl, rfl⟩ := List.cons.inj e
      obtain ⟨i1, i2⟩ := look_val (k := k) h2
      simp only [List.map_cons, lookP, keyOf_keyP]
      by_cases hk : p.1 = k
      · subst hk
        simp only [if_true]
        exact ⟨fun y e => by cases e; exact ⟨_, valV_pos rfl, h1⟩, fun e => by cases e⟩
      · rw [if_neg (fun z => hk (Option.some.inj z)), valV_neg hk]
        exact ⟨i1, i2⟩
theorem any_keys (k : Key) (kvs : List (Key × V)) : ((kvs.map fun p => keyP p.1).any fun x => decide (keyOf x = some k)) = kvs.any fun kv => decide (kv.1 = k) := by
  induction kvs with
  | nil => rfl
  | cons p r ih => simp [ih]
theorem put_val {k : Key} {x : PV} {v : V} (hv : RV Y H M x v) {kvs : List (Key × V)} {xs : List PV} (h : RVs Y H M xs (kvs.map (·.2))) :
    (putP (kvs.map fun p => keyP p.1) xs k x).1 = (putK kvs k v).map (fun p => keyP p.1) ∧ RVs Y H M (putP (kvs.map fun p => keyP p.1) xs k x).2 ((putK kvs k v).map (·.2)) := by
  unfold putP putK
  rw [any_keys]
  by_cases hc : (kvs.any fun kv => decide (kv.1 = k)) = true
  · rw [if_pos hc, if_pos hc]
    clear hc
    refine ⟨?_, ?_⟩
    · rw [List.map_map]
      refine List.map_congr_left fun p _ => ?_
      simp only [Function.comp]
      split <;> rfl
    · rw [List.map_map]
      dsimp only
      induction kvs generalizing xs with
      | nil => simp [RVs]
      | cons p r ih =>
        cases xs with
        | nil => simp [RVs] at h
        | cons y ys =>
          simp only [List.map_cons, RVs] at h
          obtain ⟨w, vr, e, h1, h2⟩ := h
          obtain ⟨rfl, rfl⟩ := List.cons.inj e
          simp only [List.map_cons, List.zipWith_cons_cons, keyOf_keyP]
          refine RVs.cons ?_ (ih h2)
          by_cases hk : p.1 = k
          · rw [if_pos (by rw [hk])]
            simp only [Function.comp, hk, if_true]
            exact hv
          · rw [if_neg (fun z => hk (Option.some.inj z))]
            simp only [Function.comp, hk, if_false]
            exact h1
  · rw [if_neg hc, if_neg hc]
    exact ⟨by simp, by simpa using h.append (RVs.cons hv RVs.nil)⟩
theorem putP_len (ks vs : List PV) (k : Key) (v : PV) (h : ks.length = vs.length) : (putP ks vs k v).1.length = (putP ks vs k v).2.length := by
  unfold putP
  split <;> simp [h]
/-- the keys and values of a dict -/
def dicOf (x : PV) (S : Store) : Option (List PV × List PV) := match x with
  | .tmd ks vs => some (ks, vs)
  | .ref .dic n => match S[n]? with
    | some (.dic ks vs) => some (ks, vs)
    | some (.lck ks vs) => some (ks, vs)
    | _ => none
  | _ => none
theorem rx_dic (rs : RS Y H M S) {x : PV} {v : V} {p : List PV × List PV} (h : RX Y H M x v) (e : dicOf x S = some p) : ∃ a kvs, v = .ref a ∧ Rd H a (.dK kvs) ∧ p.1 = kvs.map (fun p => keyP p.1) ∧ RVs Y H M p.2 (kvs.map (·.2)) := by
  cases x with
  | tmd ks xs =>
    obtain ⟨a, kvs, rfl, h1, _, h3, h4⟩ := h
    cases e
    exact ⟨a, kvs, rfl, .inl h1, h3, h4⟩
  | ref k n =>
    cases k with
    | dic =>
      have h : RV Y H M (.ref .dic n) v := h
      simp only [RV] at h
      simp only [dicOf] at e
      split at e
      · rename_i ks vs hS
        cases e
        obtain ⟨kvs, h1, h2, h3⟩ := rs.cell n _ hS
        exact ⟨_, kvs, h.2, .inl h1, h2, h3⟩
      · rename_i ks vs hS
        cases e
        obtain ⟨o, kvs, h1, h2, h3⟩ := rs.cell n _ hS
        exact ⟨_, kvs, h.2, .inr ⟨o, h1⟩, h2, h3⟩
      · cases e
    | _ => simp [dicOf] at e
  | _ => simp [dicOf] at e
theorem rx_key {x : PV} {v : V} {k : Key} (h : RX Y H M x v) (e : keyOf x = some k) : v = kV k := by
  cases x with
  | int i => cases e; exact rx_int h
  | str i => cases e; exact rx_str h
  | _ => cases e
end
/-! ### {}, d[k], d.get(k, x), k in d, d[k] = v -/
def dDnew : DE := fun _ S => .ok (.tmd [] []) S
def oDget : O2 := fun x y S => match dicOf x S, keyOf y with | some p, some k => lookP p.1 p.2 k | _, _ => none
def dDget2 (do_ di dx : DE) : DE := fun ρ S => (do_ ρ S).bind fun o S1 => if (dicOf o S1).isSome = true then (di ρ S1).bind fun i S2 => (dx ρ S2).bind fun x S3 => match x with
  | .int _ => ofO (match dicOf o S3, keyOf i with | some p, some k => some ((lookP p.1 p.2 k).getD x) | _, _ => none) S3
  | .non => ofO (match dicOf o S3, keyOf i with | some p, some k => some ((lookP p.1 p.2 k).getD x) | _, _ => none) S3
  | _ => .bad else .bad
def dDput (dv do_ di : DE) : DS := fun ρ S => (dv ρ S).bind fun v S1 => (bnd v S1).bind fun v S2 => (do_ ρ S2).bind fun o S3 => (di ρ S3).bind fun i S4 => match o, keyOf i with
  | .ref .dic n, some k => match S4[n]? with
    | some (.dic ks vs) => if ks.length < 16777216 then .ok (.nx ρ) (S4.set n (.dic (putP ks vs k v).1 (putP ks vs k v).2)) else .bad
    | _ => .bad
  | _, _ => .bad
section
variable {X : Cx} {T : List (Addr × Str)} {W : WX} {a b c e o i : Expr} {da db dc d : DE} {pos : Pos}
theorem ze_dnew : ZE X T W (.Dict [] [] pos) dDnew := pe_dnewK.imp fun σ H Q ⟨M, ρ, S, rs, re, h⟩ p hp =>
  h M _ _ (Nxt.same (same_upd hp)) (rs.same (same_upd hp)) ⟨p, [], rfl, upd_same, fun i hi => rs.ne hi hp, rfl, RVs.nil⟩ fun a e => by cases e; exact hp
theorem ze_dget (hu : X.A.units + 1 < cLine) (ha : ZE X T W a da) (hb : ZE X T W b db) (hs : NoSl b := by intro _ _; rfl) : ZE X T W (.Subscript a b pos) (dBin oDget da db) :=
  (pe_dget hu ha hb hs).imp fun σ H Q ⟨M, ρ, S, rs, re, h⟩ => by
    refine step gOut rs re h fun M1 S1 x v H1 n1 rs1 re1 rx1 fr1 _ h1 => ?_
    refine step gOut rs1 re1 h1 fun M2 S2 y u H2 n2 rs2 re2 rx2 fr2 _ h2 => ?_
    unfold oDget at h2
    split at h2
    · rename_i p k e1 e2
      cases e3 : lookP p.1 p.2 k with
      | none => rw [e3] at h2; exact h2.elim
      | some z =>
        rw [e3] at h2
        obtain ⟨q, kvs, rfl, g1, g2, g3⟩ := rx_dic rs2 (rx1.nxt n2) e1
        obtain ⟨p1, p2⟩ := p
        dsimp only at g2 g3 e3
        subst g2
        obtain ⟨w, g4, g5⟩ := (look_val g3).1 z e3
        exact ⟨q, w, rfl, .inl ⟨kvs, k, g1, rx_key rx2 e2, g4.symm⟩, Out.val h2 rs2 g5⟩
    · exact h2.elim
theorem ze_dget2 {apos cpos : Pos} {f : Expr} (hu : X.A.units + 1 < cLine) (ho : ZE X T W o da) (he : ZE X T W e db) (hf : ZE X T W f dc) (m : M2 X o "get" apos e f cpos := by exact ⟨rfl, rfl, rfl, rfl⟩) :
    ZE X T W (.Call (.Attribute o "get" apos) [e, f] [] cpos) (dDget2 da db dc) :=
  (pe_dget2 hu ho he hf m).imp fun σ H Q ⟨M, ρ, S, rs, re, h⟩ => by
    refine step gOut rs re h fun M1 S1 x v H1 n1 rs1 re1 rx1 fr1 _ h1 => ?_
    split at h1
    · rename_i hd
      obtain ⟨p, hp⟩ := Option.isSome_iff_exists.mp hd
      obtain ⟨q, kvs, rfl, g1, g2, g3⟩ := rx_dic rs1 rx1 hp
      refine ⟨q, rfl, .inl ⟨kvs, g1⟩, ?_⟩
      refine step gOut rs1 re1 h1 fun M2 S2 y u H2 n2 rs2 re2 rx2 fr2 _ h2 => ?_
      refine step gOut rs2 re2 h2 fun M3 S3 z w H3 n3 rs3 re3 rx3 fr3 _ h3 => ?_
      have key : Out (yOf X T) W σ H3 M3 (ofO (match dicOf x S3, keyOf y with | some p, some k => some ((lookP p.1 p.2 k).getD z) | _, _ => none) S3) Q → RV (yOf X T) H3 M3 z w → ∃ o, DGet H3 q u o ∧ Q (o.getD w) H3 := fun h3 rz => by
        split at h3
        · rename_i p k e1 e2
          obtain ⟨q', kvs', eq, g1, g2, g3⟩ := rx_dic rs3 ((rx1.nxt n2).nxt n3) e1
          cases eq
          obtain ⟨p1, p2⟩ := p
          dsimp only at g2 g3 h3
          subst g2
          have lv := look_val (k := k) g3
          refine ⟨valV kvs' k, .inl ⟨kvs', k, g1, rx_key ((rx2.nxt n3)) e2, rfl⟩, ?_⟩
          cases e3 : lookP (kvs'.map fun p => keyP p.1) p2 k with
          | none =>
            rw [e3] at h3
            rw [lv.2 e3]
            exact Out.val h3 rs3 rz
          | some r =>
            rw [e3] at h3
            obtain ⟨w', g4, g5⟩ := lv.1 r e3
            rw [g4]
            exact Out.val h3 rs3 g5
        · exact h3.elim
      split at h3
      · exact key h3 rx3
      · exact key h3 rx3
      · exact h3.elim
    · exact h1.elim
theorem zs_dput {value : Expr} {pos' : Pos} (hu : X.A.units + 1 < cLine) (hv : ZE X T W value d) (ho : ZE X T W o da) (hi : ZE X T W i db) (hs : swapsWith value (some (.Subscript o i pos')) pos.line X.env = pure false := by rfl) :
    ZS X T W (.Assign [.Subscript o i pos'] value pos) (dDput d da db) := (ps_dput hu ho hi hv hs).imp fun D σ H ⟨M, ρ, S, rs, re, h⟩ => by
  have hsl := lineS
  refine stepB gOutS rs re h fun M1 S1 v w H1 n1 rs1 re1 rv1 h1 => ?_
  refine step gOutS rs1 re1 h1 fun M2 S2 x u H2 n2 rs2 re2 rx2 fr2 _ h2 => ?_
  refine step gOutS rs2 re2 h2 fun M3 S3 y z H3 n3 rs3 re3 rx3 fr3 _ h3 => ?_
  have rv3 := (rv1.nxt n2).nxt n3
  split at h3
  · rename_i n k e2 e0
    split at h3
    · rename_i ks vs hS
      split at h3
      · rename_i hl
        have rr : RV (yOf X T) H3 M3 (.ref .dic n) u := rx2.nxt n3
        simp only [RV] at rr
        obtain ⟨hk, rfl⟩ := rr
        have hi := (List.getElem?_eq_some_iff.mp hk).1
        obtain ⟨kvs, g1, g2, g3⟩ := rs3.cell n _ hS
        subst g2
        have hnl : ∀ ks vs, S3[n]? ≠ some (.lck ks vs) := fun ks vs e => by rw [hS] at e; cases e
        obtain ⟨q1, q2⟩ := put_val (k := k) rv3 g3
        refine ⟨M3.f n, upd H3 (M3.f n) (.dK (putK kvs k w)), rfl, .inl ⟨kvs, k, g1, rx_key rx3 e2, by simp at hl; omega, rfl⟩, ?_⟩
        have nn := Nxt.cell (o := .dK (putK kvs k w)) rs3 hi hnl
        exact h3 M3 _ σ nn (rs3.set hi hnl hk ⟨_, upd_same, q1, q2.nxt nn⟩) (re3.nxt nn)
      · exact h3.elim
    · exact h3.elim
  · exact h3.elim
end
/-! ### a dict is locked while it is walked -/
def unlk {α : Type} (n : Nat) (ks vs : List PV) (r : Res α) : Res α := match r with
  | .ok a S => match S[n]? with
    | some (.lck _ _) => .ok a (S.set n (.dic ks vs))
    | _ => .bad
  | _ => .bad
def dLock (i : Nat) (d : DS) : DS := fun ρ S => match ρ[i]? with
  | some (some (.ref .dic n)) => match S[n]? with
    | some (.dic ks vs) => unlk n ks vs (d ρ (S.set n (.lck ks vs)))
    | _ => .bad
  | _ => .bad
def dLockE (i : Nat) (d : DE) : DE := fun ρ S => match ρ[i]? with
  | some (some (.ref .dic n)) => match S[n]? with
    | some (.dic ks vs) => unlk n ks vs (d ρ (S.set n (.lck ks vs)))
    | _ => .bad
  | _ => .bad
section
variable {Y : Ctx} {H H1 : Hp} {M M1 : Mp} {S S1 : Store} {ρ : LEnv} {σ : L2.St} {n : Nat} {ks vs : List PV}
theorem fz_unl {a : Addr} {o : Obj} {kvs : List (Key × V)} {u : HO} (h : H a = some (.frz o (.dK kvs))) : ∀ b ob w, Stay w → H b = some (.frz ob w) → (upd H a u) b = some (.frz ob w) := fun b ob w st e => by
  rw [upd_ne (fun z => by rw [z, h] at e; cases e; exact st)]; exact e
theorem fz_lck {a : Addr} {kvs : List (Key × V)} {u : HO} (h : H a = some (.dK kvs)) : ∀ b ob w, Stay w → H b = some (.frz ob w) → (upd H a u) b = some (.frz ob w) := fun b ob w st e => by
  rw [upd_ne (fun z => by rw [z, h] at e; cases e)]; exact e
theorem RX.lk {a : Addr} {u u' : HO} (hz : ∀ b ob w, Stay w → H b = some (.frz ob w) → (upd H a u) b = some (.frz ob w)) (hi : ∃ i, i < M.ks.length ∧ M.f i = a) : ∀ {x : PV} {v : V}, RX Y H M x v → RX Y (upd H a u) M x v
  | .tmp xs, v, h => by
    obtain ⟨b, ws, e, h1, h2, h3⟩ := h
    obtain ⟨i, hi, ea⟩ := hi
    exact ⟨b, ws, e, by rw [upd_ne (fun z => h2 i hi (ea.trans z.symm))]; exact h1, h2, h3.fz hz⟩
  | .tmd ks xs, v, h => by
    obtain ⟨b, ws, e, h1, h2, h3, h4⟩ := h
    obtain ⟨i, hi, ea⟩ := hi
    exact ⟨b, ws, e, by rw [upd_ne (fun z => h2 i hi (ea.trans z.symm))]; exact h1, h2, h3, h4.fz hz⟩
  | .non, _, h => RX.of (x := .non) (RV.fz hz h)
  | .bl b, _, h => RX.of (x := .bl b) (RV.fz hz h)
  | .int i, _, h => RX.of (x := .int i) (RV.fz hz h)
  | .str s, _, h => RX.of (x := .str s) (RV.fz hz h)
  | .tup xs, _, h => RX.of (x := .tup xs) (RV.fz hz h)
  | .frz xs, _, h => RX.of (x := .frz xs) (RV.fz hz h)
  | .ref k i, _, h => RX.of (x := .ref k i) (RV.fz hz h)
  | .glo x, _, h => RX.of (x := .glo x) (RV.fz hz h)
/-- locked, and open again -/
theorem RS.lk (rs : RS Y H M S) (hi : n < M.ks.length) {u : HO} {c : Cell} (hz : ∀ b ob w, Stay w → H b = some (.frz ob w) → (upd H (M.f n) u) b = some (.frz ob w)) (hk : M.ks[n]? = some c.kind) (hc : RC Y (upd H (M.f n) u) M c (M.f n)) : RS Y (upd H (M.f n) u) M (S.set n c) where
  ks := by
    rw [rs.ks] at hk ⊢
    apply List.ext_getElem?
    intro j
    rw [List.getElem?_map, List.getElem?_map, List.getElem?_set]
    by_cases h : n = j
    · subst h
      rw [List.getElem?_map] at hk
      rw [if_pos rfl, if_pos (by rw [← rs.len]; exact hi), hk] <;> rfl
    · rw [if_neg h]
  cell := fun j d h => by
    by_cases e : j = n
    · subst e
      rw [List.getElem?_set_self (by rw [← rs.len]; exact hi)] at h
      cases h; exact hc
    · rw [List.getElem?_set_ne (Ne.symm e)] at h
      have hd := rs.cell j d h
      have hj : j < M.ks.length := by rw [rs.len]; exact (List.getElem?_eq_some_iff.mp h).1
      exact hd.fz hz (upd_ne fun z => e (rs.inj _ _ hj hi z))
  inj := rs.inj
  tabs := by
    obtain ⟨d, hS, hd⟩ := rs.at hi
    obtain ⟨u, e, h1, _⟩ := hd.there
    exact tabs_cell rs.tabs e h1 (hd.noCode e)
/-- all that is known behind the locked part -/
theorem lk_back {od : Obj} {kvs : List (Key × V)} {Hl H2 : Hp} {M2 : Mp} {S2 : Store} (hi : n < M.ks.length) (hH : H (M.f n) = some (.dK kvs)) (hl : Hl = upd H (M.f n) (.frz od (.dK kvs))) (nx : Nxt Hl M H2 M2) (rs2 : RS Y H2 M2 S2) {ks' vs' : List PV}
    (hS : S2[n]? = some (.lck ks' vs')) (hks : ks = kvs.map (fun p => keyP p.1)) (hv : RVs Y H M vs (kvs.map (·.2))) :
    H2 (M.f n) = some (.frz od (.dK kvs)) ∧ Nxt H M (upd H2 (M.f n) (.dK kvs)) M2 ∧ RS Y (upd H2 (M.f n) (.dK kvs)) M2 (S2.set n (.dic ks vs)) ∧ (∀ {x : PV} {v : V}, RX Y H2 M2 x v → RX Y (upd H2 (M.f n) (.dK kvs)) M2 x v) ∧
      (∀ {ρ : LEnv} {σ : L2.St}, RE Y H2 M2 ρ σ → RE Y (upd H2 (M.f n) (.dK kvs)) M2 ρ σ) := by
  have h2 : H2 (M.f n) = some (.frz od (.dK kvs)) := nx.frz _ _ _ (by rw [hl, upd_same])
  have hz := fz_unl (u := .dK kvs) h2
  have hi2 : n < M2.ks.length := Nat.lt_of_lt_of_le hi nx.len
  have ef : M2.f n = M.f n := nx.mu n hi
  have hk2 : M2.ks[n]? = some .dic := by
    rw [rs2.ks, List.getElem?_map, hS] <;> rfl
  have n1 : Nxt H M (upd H2 (M.f n) (.dK kvs)) M2 := by
    refine ⟨fun a o e nt hn => ?_, fun a ws e => ?_, fun a o u e => ?_, nx.mu, nx.ks, fun i h1 h3 => ?_, fun a e => ?_⟩
    · have na : a ≠ M.f n := fun z => hn n hi z.symm
      rw [upd_ne na]
      exact nx.keep a o (by rw [hl, upd_ne na]; exact e) nt hn
    · have na : a ≠ M.f n := fun z => by rw [z, hH] at e; cases e
      rw [upd_ne na]
      exact nx.tup a ws (by rw [hl, upd_ne na]; exact e)
    · have na : a ≠ M.f n := fun z => by rw [z, hH] at e; cases e
      rw [upd_ne na]
      exact nx.frz a o u (by rw [hl, upd_ne na]; exact e)
    · have q := nx.new i h1 h3
      rw [hl] at q
      by_cases z : M2.f i = M.f n
      · rw [z, upd_same] at q; cases q
      · rw [upd_ne z] at q; exact q
    · by_cases z : a = M.f n
      · rw [z, upd_same]; simp
      · rw [upd_ne z]
        exact nx.dom a (by rw [hl, upd_ne z]; exact e)
  refine ⟨h2, n1, ?_, fun {x v} h => RX.lk (u' := .dK kvs) hz ⟨n, hi2, ef⟩ h, fun {ρ σ} re => re.fz hz⟩
  rw [← ef]
  rw [← ef] at hz
  refine rs2.lk hi2 hz hk2 ⟨kvs, upd_same, hks, ?_⟩
  rw [ef]
  exact hv.nxt n1
theorem lk_in {od : Obj} {kvs : List (Key × V)} (rs : RS Y H M S) (re : RE Y H M ρ σ) (hi : n < M.ks.length) (hH : H (M.f n) = some (.dK kvs)) (hS : S[n]? = some (.dic ks vs)) (hks : ks = kvs.map (fun p => keyP p.1)) (hv : RVs Y H M vs (kvs.map (·.2))) :
    RS Y (upd H (M.f n) (.frz od (.dK kvs))) M (S.set n (.lck ks vs)) ∧ RE Y (upd H (M.f n) (.frz od (.dK kvs))) M ρ σ := by
  have hz := fz_lck (u := .frz od (.dK kvs)) hH
  have hk : M.ks[n]? = some .dic := by
    rw [rs.ks, List.getElem?_map, hS] <;> rfl
  exact ⟨rs.lk hi hz hk ⟨od, kvs, upd_same, hks, hv.fz hz⟩, re.fz hz⟩
end
section
variable {X : Cx} {T : List (Addr × Str)} {W : WX} {e : Expr} {st : Stmt} {i : Nat} {d : DE} {u : DS}
theorem zs_lock (h : ZS X T W st u) : ZS X T W st (dLock i u) := (ps_lock h).imp fun D σ H ⟨M, ρ, S, rs, re, h⟩ => by
  unfold dLock at h
  split at h
  · rename_i n hρ
    split at h
    · rename_i ks vs hS
      obtain ⟨v, h1, h2⟩ := re.get i _ hρ
      simp only [RV] at h2
      have hi := (List.getElem?_eq_some_iff.mp h2.1).1
      obtain ⟨kvs, g1, g2, g3⟩ := rs.cell n _ hS
      refine ⟨M.f n, .dK kvs, g1, True.intro, fun od => ?_⟩
      obtain ⟨rsL, reL⟩ := lk_in (od := od) rs re hi g1 hS g2 g3
      refine ⟨M, ρ, _, rsL, reL, ?_⟩
      generalize u ρ (S.set n (.lck ks vs)) = r at h
      cases r with
      | bad => exact h.elim
      | err c o S1 => exact h.elim
      | ok fl S1 =>
        simp only [unlk] at h
        split at h
        · rename_i ks' vs' hS1
          cases fl with
          | nx ρ2 =>
              intro M' H' σ' n' rs' re'
              obtain ⟨b1, b2, b3, b4, b5⟩ := lk_back hi g1 rfl n' rs' hS1 g2 g3
              exact ⟨b1, h M' _ σ' b2 b3 (b5 re')⟩
          | bk ρ2 =>
              intro M' H' σ' n' rs' re'
              obtain ⟨b1, b2, b3, b4, b5⟩ := lk_back hi g1 rfl n' rs' hS1 g2 g3
              exact ⟨b1, h M' _ σ' b2 b3 (b5 re')⟩
          | ct ρ2 =>
              intro M' H' σ' n' rs' re'
              obtain ⟨b1, b2, b3, b4, b5⟩ := lk_back hi g1 rfl n' rs' hS1 g2 g3
              exact ⟨b1, h M' _ σ' b2 b3 (b5 re')⟩
          | rt x =>
              intro M' H' v n' rs' rx fr
              obtain ⟨b1, b2, b3, b4, b5⟩ := lk_back hi g1 rfl n' rs' hS1 g2 g3
              refine ⟨b1, h M' _ v b2 b3 (b4 rx) ?_⟩
              have frl : ∀ a, (upd H (M.f n) (.frz od (.dK kvs))) a = none → H a = none := fun a e => by
                by_cases z : a = M.f n
                · rw [z, upd_same] at e; cases e
                · rw [upd_ne z] at e; exact e
              cases x with
              | tmp xs => exact fun a e => frl a (fr a e)
              | tmd ks xs => exact fun a e => frl a (fr a e)
              | _ => exact True.intro
        · exact h.elim
    · exact h.elim
  · exact h.elim
theorem ze_lock (h : ZE X T W e d) : ZE X T W e (dLockE i d) := (pe_lock h).imp fun σ H Q ⟨M, ρ, S, rs, re, h⟩ => by
  unfold dLockE at h
  split at h
  · rename_i n hρ
    split at h
    · rename_i ks vs hS
      obtain ⟨v, h1, h2⟩ := re.get i _ hρ
      simp only [RV] at h2
      have hi := (List.getElem?_eq_some_iff.mp h2.1).1
      obtain ⟨kvs, g1, g2, g3⟩ := rs.cell n _ hS
      refine ⟨M.f n, .dK kvs, g1, True.intro, fun od => ?_⟩
      obtain ⟨rsL, reL⟩ := lk_in (od := od) rs re hi g1 hS g2 g3
      refine ⟨M, ρ, _, rsL, reL, ?_⟩
      generalize d ρ (S.set n (.lck ks vs)) = r at h
      cases r with
      | bad => exact h.elim
      | err c o S1 => exact h.elim
      | ok x S1 =>
        simp only [unlk] at h
        split at h
        · rename_i ks' vs' hS1
          intro M' H' v n' rs' rx fr
          obtain ⟨b1, b2, b3, b4, b5⟩ := lk_back hi g1 rfl n' rs' hS1 g2 g3
          refine ⟨b1, h M' _ v b2 b3 (b4 rx) ?_⟩
          have frl : ∀ a, (upd H (M.f n) (.frz od (.dK kvs))) a = none → H a = none := fun a e => by
            by_cases z : a = M.f n
            · rw [z, upd_same] at e; cases e
            · rw [upd_ne z] at e; exact e
          cases x with
          | tmp xs => exact fun a e => frl a (fr a e)
          | tmd ks xs => exact fun a e => frl a (fr a e)
          | _ => exact True.intro
        · exact h.elim
    · exact h.elim
  · exact h.elim
end
end Z

set_option Elab.async false
set_option linter.all false
set_option maxRecDepth 100000
set_option maxHeartbeats 2000000
/-! # ZQ: dicts walked, dict comprehensions -/
namespace Z
open PySem PySem.Spec PyProof.Rows L2

/-- the items, the keys of the (locked) dict in cell n -/
def itemsP (ks vs : List PV) : List PV := List.zipWith (fun k v => PV.tup [k, v]) ks vs
def itmS (n : Nat) : SF := fun S => match S[n]? with | some (.lck ks vs) => some (itemsP ks vs) | _ => none
def keyS (n : Nat) : SF := fun S => match S[n]? with | some (.lck ks vs) => some ks | _ => none
def iItm (i : Nat) : DI := fun ρ S => match ρ[i]? with
  | some (some (.ref .dic n)) => match S[n]? with | some (.lck _ _) => .ok (itmS n) S | _ => .bad
  | _ => .bad
def iKey (i : Nat) : DI := fun ρ S => match ρ[i]? with
  | some (some (.ref .dic n)) => match S[n]? with | some (.lck _ _) => .ok (keyS n) S | _ => .bad
  | _ => .bad
section
variable {Y : Ctx}
theorem itmS_some {n : Nat} {S : Store} {xs : List PV} (h : itmS n S = some xs) : ∃ ks vs, S[n]? = some (.lck ks vs) ∧ xs = itemsP ks vs := by
  unfold itmS at h
  split at h
  · rename_i ks vs e; exact ⟨ks, vs, e, (Option.some.inj h).symm⟩
  · cases h
theorem keyS_some {n : Nat} {S : Store} {xs : List PV} (h : keyS n S = some xs) : ∃ ks vs, S[n]? = some (.lck ks vs) ∧ xs = ks := by
  unfold keyS at h
  split at h
  · rename_i ks vs e; exact ⟨ks, vs, e, (Option.some.inj h).symm⟩
  · cases h
theorem rv_key {H : Hp} {M : Mp} (k : Key) : RV Y H M (keyP k) (kV k) := by cases k <;> simp [keyP, kV, RV]
theorem src_itm {n : Nat} {d : Addr} {o : Obj} {kvs : List (Key × V)} : SrcOk Y true (Iti d o kvs) (itmS n) (fun H M => H d = some (.frz o (.dK kvs)) ∧ n < M.ks.length ∧ M.f n = d) where
  nxt := fun ⟨a, b, c⟩ n => ⟨n.frz _ _ _ a, Nat.lt_of_lt_of_le b n.len, (n.mu _ b).trans c⟩
  go := fun {H M S xs i x} rs ⟨ga, gb, gc⟩ e1 e2 => by
    obtain ⟨ks, vs, hS, rfl⟩ := itmS_some e1
    obtain ⟨o', kvs', h1, h2, h3⟩ := rs.cell n _ hS
    rw [gc, ga] at h1
    cases h1
    subst h2
    simp only [itemsP, List.getElem?_zipWith, List.getElem?_map] at e2
    split at e2
    · rename_i y z e3 e4
      cases e2
      cases e5 : kvs[i]? with
      | none => rw [e5] at e3; cases e3
      | some p =>
        rw [e5] at e3
        cases e3
        obtain ⟨w, h4, h5⟩ := h3.get e4
        rw [List.getElem?_map, e5] at h4
        cases h4
        refine ⟨⟨ga, (List.getElem?_eq_some_iff.mp e5).1⟩, fun v H' ⟨T, k, v', q1, q2, q3, q4⟩ => ?_⟩
        rw [e5] at q1
        cases q1
        subst q4
        have sm := same_upd (o := .tup [kV k, v']) q3
        exact ⟨sm, _, T, _, rfl, q2, .inl (.inl upd_same), RVs.cons (rv_key k) (RVs.cons (h5.nxt (Nxt.same sm)) RVs.nil)⟩
    · cases e2
  stop := fun {H M S xs i} rs ⟨ga, gb, gc⟩ e1 hl => by
    obtain ⟨ks, vs, hS, rfl⟩ := itmS_some e1
    obtain ⟨o', kvs', h1, h2, h3⟩ := rs.cell n _ hS
    rw [gc, ga] at h1
    cases h1
    subst h2
    refine ⟨ga, ?_⟩
    have := h3.length
    simp only [itemsP, List.length_zipWith, List.length_map] at hl this
    omega
theorem src_key {n : Nat} {d : Addr} {o : Obj} {kvs : List (Key × V)} : SrcOk Y false (Itk d o kvs) (keyS n) (fun H M => H d = some (.frz o (.dK kvs)) ∧ n < M.ks.length ∧ M.f n = d) where
  nxt := fun ⟨a, b, c⟩ n => ⟨n.frz _ _ _ a, Nat.lt_of_lt_of_le b n.len, (n.mu _ b).trans c⟩
  go := fun {H M S xs i x} rs ⟨ga, gb, gc⟩ e1 e2 => by
    obtain ⟨ks, vs, hS, rfl⟩ := keyS_some e1
    obtain ⟨o', kvs', h1, h2, h3⟩ := rs.cell n _ hS
    rw [gc, ga] at h1
    cases h1
    subst h2
    rw [List.getElem?_map] at e2
    cases e5 : kvs[i]? with
    | none => rw [e5] at e2; cases e2
    | some p =>
      rw [e5] at e2
      cases e2
      refine ⟨⟨ga, (List.getElem?_eq_some_iff.mp e5).1⟩, fun v H' ⟨q0, k, v', q1, q2⟩ => ?_⟩
      rw [e5] at q1
      cases q1
      subst q0 q2
      exact ⟨fun _ _ e => e, rv_key k⟩
  stop := fun {H M S xs i} rs ⟨ga, gb, gc⟩ e1 hl => by
    obtain ⟨ks, vs, hS, rfl⟩ := keyS_some e1
    obtain ⟨o', kvs', h1, h2, h3⟩ := rs.cell n _ hS
    rw [gc, ga] at h1
    cases h1
    subst h2
    refine ⟨ga, ?_⟩
    simp only [List.length_map] at hl
    omega
end
section
variable {X : Cx} {T : List (Addr × Str)} {W : WX} {e : Expr} {i : Nat}
theorem zi_items {elts : List Expr} {kk : Nat} {tpos apos cpos pos : Pos} {x : Str} (hN : X.N[i]? = some x := by rfl) (hv : Vis X.env.scope x := by first | exact Or.inl rfl | exact Or.inr (Or.inl rfl) | exact Or.inr (Or.inr rfl))
    (hd : (x == ("__debug__" : Str)) = false := by decide) (hcd : (x == ("__classdict__" : Str)) = false := by decide) (hbase : attributeBase (.Name x pos) "items" X.env (eval (.Name x pos) X.env) = eval (.Name x pos) X.env := by rfl) (hline : (apos.endLine == cpos.line) = true := by rfl) :
    ZI X T W true (.Tuple elts kk tpos) (.Call (.Attribute (.Name x pos) "items" apos) [] [] cpos) (iItm i) := (pi_items (pe_var hN hv hd hcd) hbase hline).imp fun σ H R ⟨M, ρ, S, rs, re, h⟩ => by
  unfold iItm at h
  split at h
  · rename_i n hρ
    split at h
    · rename_i ks vs hS
      obtain ⟨v, h1, h2⟩ := re.get i _ hρ
      simp only [RV] at h2
      obtain ⟨h2, rfl⟩ := h2
      have hi := (List.getElem?_eq_some_iff.mp h2).1
      obtain ⟨o, kvs, g1, g2, g3⟩ := rs.cell n _ hS
      exact ⟨_, h1, M.f n, o, kvs, rfl, g1, h M H _ _ Nxt.refl rs src_itm ⟨g1, hi, rfl⟩⟩
    · exact h.elim
  · exact h.elim
theorem zi_keysD {tg : Expr} {pos : Pos} {x : Str} (hN : X.N[i]? = some x := by rfl) (hv : Vis X.env.scope x := by first | exact Or.inl rfl | exact Or.inr (Or.inl rfl) | exact Or.inr (Or.inr rfl))
    (hd : (x == ("__debug__" : Str)) = false := by decide) (hcd : (x == ("__classdict__" : Str)) = false := by decide) :
    ZI X T W false tg (.Name x pos) (iKey i) := (pi_keys (pe_var hN hv hd hcd)).imp fun σ H R ⟨M, ρ, S, rs, re, h⟩ => by
  unfold iKey at h
  split at h
  · rename_i n hρ
    split at h
    · rename_i ks vs hS
      obtain ⟨v, h1, h2⟩ := re.get i _ hρ
      simp only [RV] at h2
      obtain ⟨h2, rfl⟩ := h2
      have hi := (List.getElem?_eq_some_iff.mp h2).1
      obtain ⟨o, kvs, g1, g2, g3⟩ := rs.cell n _ hS
      exact ⟨_, h1, M.f n, o, rfl, .inl ⟨kvs, g1, h M H _ _ Nxt.refl rs src_key ⟨g1, hi, rfl⟩⟩⟩
    · exact h.elim
  · exact h.elim
end
/-! ### dict comprehensions -/
open Classical in
noncomputable def dcL (f : SF) (all : List PV) (g : DG) (t : DT) (ek ev : DE) (vs : List Nat) (ρ : LEnv) : List PV → List PV → List PV → Store → Res (List PV × List PV)
  | [], ka, va, S => if f S = some all then .ok (ka, va) S else .bad
  | x :: xs, ka, va, S => if f S = some all then (match g x (wipeP ρ vs) with
      | none => .bad
      | some ρ1 => (t ρ1 S).calm.bind fun b S1 => if b = true then (ek ρ1 S1).calm.bind fun y S2 => match keyOf y with
            | some k => (ev ρ1 S2).calm.bind fun z S3 => (bnd z S3).bind fun z S4 => if ka.length < 16777216 then dcL f all g t ek ev vs ρ xs (putP ka va k z).1 (putP ka va k z).2 S4 else .bad
            | none => .bad
          else dcL f all g t ek ev vs ρ xs ka va S1) else .bad
noncomputable def dDc (d : DI) (g : DG) (t : DT) (ek ev : DE) (vs : List Nat) : DE := fun ρ S => (d ρ S).bind fun f S1 => match f S1 with | none => .bad | some xs => (dcL f xs g t ek ev vs ρ xs [] [] S1).bind fun p S2 => .ok (.tmd p.1 p.2) S2
section
variable {X : Cx} {T : List (Addr × Str)} {W : WX} {pos : Pos}
theorem dc_tof {k : Bool} {di : DI} {g : DG} {t : DT} {ek ev : DE} {is vs : List Nat} (hv : ∀ i ∈ is, i ∈ vs) {σ : L2.St} {H : Hp} {Q : VK} (h : tOf (yOf X T) W (dDc di g t ek ev vs) σ H Q) :
    tDc (tOfI (yOf X T) W k di) (tOfG (yOf X T) k g is) (tOfT (yOf X T) W0 t) (tOf (yOf X T) W0 ek) (tOf (yOf X T) W0 ev) vs σ H Q := by
  have hsl := lineS
  obtain ⟨M, ρ, S, rs, re, h⟩ := h
  unfold dDc at h
  refine stepI gOut rs re h fun M1 S1 f J G H1 n1 rs1 re1 so gg _ h1 => ?_
  cases hx : f S1 with
  | none => simp only [hx] at h1; exact h1.elim
  | some xs =>
  simp only [hx] at h1
  intro A hA
  have sA : Same H1 (upd H1 A (.dK [])) := same_upd hA
  refine ⟨fun i m H => m = xs.length - i ∧ i ≤ xs.length ∧ ∃ M S ka va, RS (yOf X T) H M S ∧ Nxt H1 M1 H M ∧ RX (yOf X T) H M (.tmd ka va) (.ref A) ∧ RE (yOf X T) H M ρ σ ∧
    Out (yOf X T) W σ H1 M1 ((dcL f xs g t ek ev vs ρ (xs.drop i) ka va S).bind fun p S2 => .ok (.tmd p.1 p.2) S2) Q, ⟨xs.length, by simp, Nat.zero_le _, M1, S1, [], [], rs1.same sA, Nxt.same sA, ⟨A, [], rfl, upd_same, fun i hi => rs1.ne hi hA, rfl, RVs.nil⟩, re1.nxt (Nxt.same sA), by simpa using h1⟩, ?_⟩
  rintro i m H ⟨rfl, hi, M, S, ka, va, rs, n, rx, re, h⟩
  have gH := so.nxt gg n
  by_cases hlt : i < xs.length
  · right
    have hd : xs.drop i = xs[i] :: xs.drop (i + 1) := List.drop_eq_getElem_cons hlt
    rw [hd, dcL] at h
    split at h
    · rename_i hf
      obtain ⟨hgo, hy⟩ := so.go rs gH hf (List.getElem?_eq_getElem hlt)
      refine ⟨hgo, fun H' => ∃ M S ka va, RS (yOf X T) H' M S ∧ Nxt H1 M1 H' M ∧ RX (yOf X T) H' M (.tmd ka va) (.ref A) ∧ RE (yOf X T) H' M ρ σ ∧
          Out (yOf X T) W σ H1 M1 ((dcL f xs g t ek ev vs ρ (xs.drop (i + 1)) ka va S).bind fun p S2 => .ok (.tmd p.1 p.2) S2) Q,
        fun H' ⟨M', S', a', b', q⟩ => ⟨xs.length - (i + 1), by omega, rfl, hlt, M', S', a', b', q⟩, fun x H' y => ?_⟩
      obtain ⟨sm, rt⟩ := hy x H' y
      have n2 := Nxt.same (M := M) sm
      split at h
      · exact h.elim
      · rename_i ρ1 hg1
        refine ⟨M, wipeP ρ vs, xs[i], ρ1, (re.nxt n2).wipe vs, rt, hg1, fun σ2 re2 gs => ⟨(gs vs hv).trans (wipe_wipe σ vs vs fun _ h => h), ?_⟩⟩
        refine ⟨M, ρ1, S, rs.same sm, re2, ?_⟩
        cases et : t ρ1 S with
        | bad => rw [et] at h; exact h.elim
        | err c o S2 => rw [et] at h; exact h.elim
        | ok k2 S2 =>
        rw [et] at h
        intro M3 H3 n3 rs3
        have nn : Nxt H1 M1 H3 M3 := (n.trans n2).trans n3
        simp only [Res.calm_ok, Res.bind_ok] at h
        cases k2 with
        | false =>
          rw [if_neg Bool.false_ne_true] at h ⊢
          exact ⟨M3, S2, ka, va, rs3, nn, (rx.nxt n2).nxt n3, (re.nxt n2).nxt n3, h⟩
        | true =>
          rw [if_pos rfl] at h ⊢
          refine ⟨M3, ρ1, S2, rs3, re2.nxt n3, ?_⟩
          cases ee : ek ρ1 S2 with
          | bad => rw [ee] at h; exact h.elim
          | err c o S3 => rw [ee] at h; exact h.elim
          | ok y S3 =>
          rw [ee] at h
          intro M4 H4 v n4 rs4 ry fr
          simp only [Res.calm_ok, Res.bind_ok] at h
          split at h
          · rename_i k hk
            refine ⟨M4, ρ1, S3, rs4, (re2.nxt n3).nxt n4, ?_⟩
            cases ev' : ev ρ1 S3 with
            | bad => rw [ev'] at h; exact h.elim
            | err c o S4 => rw [ev'] at h; exact h.elim
            | ok z S4 =>
            rw [ev'] at h
            intro M5 H5 w n5 rs5 rz frz
            simp only [Res.calm_ok, Res.bind_ok] at h
            obtain ⟨z', S6, M6, eb, n6, rs6, rz'⟩ := bnd_ok n5 rs5 rz frz
            rw [eb] at h
            simp only [Res.bind_ok] at h
            have rxA := (((rx.nxt n2).nxt n3).nxt n4).nxt n6
            obtain ⟨A', kvs, eA, hA4, hnA, hks, rws⟩ := rxA
            cases eA
            subst hks
            split at h
            · rename_i hacc
              obtain ⟨q1, q2⟩ := put_val (k := k) rz' rws
              refine ⟨kvs, k, rx_key ry hk, hA4, by simp at hacc; omega, M6, S6, _, _, rs6.off hA4 hnA (fun ps z => by cases z) (fun c q z => by unfold LamX.CodeO at z; cases z) (fun ob w z => by cases z), ((nn.trans n4).trans n6).off hA, ⟨A, _, rfl, upd_same, hnA, q1, ?_⟩, ?_, h⟩
              · exact q2.fz (fz_upd hA4 fun ob w z => by cases z)
              · exact RE.fz ((((re.nxt n2).nxt n3).nxt n4).nxt n6) (fz_upd hA4 fun ob w z => by cases z)
            · exact h.elim
          · exact h.elim
    · exact h.elim
  · left
    have hd : xs.drop i = [] := List.drop_eq_nil_of_le (by omega)
    rw [hd, dcL] at h
    split at h
    · rename_i hf
      exact ⟨so.stop rs gH hf (by omega), h M H (.ref A) n rs rx fun a e => by cases e; exact hA⟩
    · exact h.elim
theorem ze_dc {kx vx tg iter : Expr} {ifs : List Expr} {scope : Scope} {own : List (Str × Nat)} {k : Bool} {di : DI} {g : DG} {t : DT} {ek ev : DE} {is : List Nat} (hc : X.calm = true) (hN : X.N.Nodup) (hi : ZI X T W k tg iter di) (ok : BlkOk X.N X.env.scope scope own) (hv : ∀ i ∈ is, i ∈ own.map (·.2))
    (hg : ∀ (s : Shared) (H : Hp) (C : Addr) (cl : List (Str × Addr)) (fp : List Addr), ZG (X.blk s H scope (compEnvC scope cl C X.env) fp) T k tg g is) (ht : ∀ (s : Shared) (H : Hp) (C : Addr) (cl : List (Str × Addr)) (fp : List Addr), ZTs (X.blk s H scope (compEnvC scope cl C X.env) fp) T W0 ifs t)
    (hk : ∀ (s : Shared) (H : Hp) (C : Addr) (cl : List (Str × Addr)) (fp : List Addr), ZE (X.blk s H scope (compEnvC scope cl C X.env) fp) T W0 kx ek)
    (he : ∀ (s : Shared) (H : Hp) (C : Addr) (cl : List (Str × Addr)) (fp : List Addr), ZE (X.blk s H scope (compEnvC scope cl C X.env) fp) T W0 vx ev) (hs : ∀ x, foldedSetIterable iter X.env x = pure x := by intro _; rfl) :
    ZE X T W (.DictComp kx vx [⟨tg, iter, ifs, 0⟩] scope pos) (dDc di g t ek ev (own.map (·.2))) :=
  (pe_dc hc hN hi ok hg ht hk he hs).imp fun σ H Q h => dc_tof hv h
end
/-! ### * of great numbers -/
def wideI (x y : PV) : Option PV := match x, y with
  | .int i, .int j => if i.natAbs.log2 + j.natAbs.log2 < 1000000 then some (.int (i * j)) else none
  | _, _ => none
def oMulG : O2 := fun x y S => match oMulZ x y S with | some z => some z | none => wideI x y
theorem oMulG_of {x y z : PV} {S : Store} (h : oMulZ x y S = some z) : oMulG x y S = some z := by simp [oMulG, h]
theorem mulZ_int {i j : Int} {S : Store} {z : PV} (h : oMulZ (.int i) (.int j) S = some z) : z = .int (i * j) := by
  unfold oMulZ at h
  dsimp only at h
  split at h
  · cases h; rfl
  · cases h
theorem oMulG_int {i j : Int} {S : Store} (h : i.natAbs.log2 + j.natAbs.log2 < 1000000) : oMulG (.int i) (.int j) S = some (.int (i * j)) := by
  unfold oMulG
  split
  · rename_i z e; rw [mulZ_int e]
  · simp [wideI, h]
def iMulG : OP := fun x y S => match x, y with | .int i, .int j => if i.natAbs.log2 + j.natAbs.log2 < 1000000 then some (.int (i * j), S) else none | _, _ => none
section
variable {X : Cx} {T : List (Addr × Str)} {W : WX}
theorem oz_mulG : OpR X (binaryOp .Mult) (rOf (yOf X T) oMulG) := by
  intro pins s σ H x y v u Q I rx ry ⟨M, S, a, b, z, rs, ra, rb, e, q⟩
  unfold oMulG at e
  split at e
  · rename_i z' e'
    cases e
    exact oz_mulZ pins s σ H x y v u Q I rx ry ⟨M, S, a, b, _, rs, ra, rb, e', q⟩
  · unfold wideI at e
    split at e
    · split at e
      · rename_i hc
        cases e
        cases rx_int ra; cases rx_int rb
        exact op_mulW pins s σ H _ _ v u Q I rx ry ⟨_, _, rfl, rfl, hc, q.int rs⟩
      · cases e
    · cases e
end
end Z
namespace Z
open PySem PySem.Spec PyProof.Rows L2
theorem ipp_mulG {X : Cx} {T : List (Addr × Str)} : PIp X .Mult (rOfP (yOf X T) iMulG) := by
  intro pins s σ H x y v u Q I rx ry ⟨M, S, a, b, z, S', rs, ra, rb, e, q⟩
  unfold iMulG at e
  split at e
  · split at e
    · rename_i hc
      cases e
      cases rx_int ra; cases rx_int rb
      exact (show OpR X (inplaceOp .Mult) (rI CMulW fun i j => .int (i * j)) from opI fun _ _ _ _ _ _ _ hc q => imul_int q hc.ok) pins s σ H _ _ v u Q I rx ry ⟨_, _, rfl, rfl, hc, q.int rs⟩
    · cases e
  · cases e
end Z

set_option Elab.async false
set_option linter.all false
set_option maxRecDepth 100000
set_option maxHeartbeats 2000000
/-! # ZR: sorted numbers, a list taken apart -/
namespace Z
open PySem PySem.Spec PyProof.Rows L2
def sortI (xs : List Int) : List Int := xs.mergeSort (fun a b => decide (a ≤ b))
theorem sortI_pw (xs : List Int) : (sortI xs).Pairwise (· ≤ ·) := by
  have := List.pairwise_mergeSort (le := fun a b : Int => decide (a ≤ b)) (fun a b c h1 h2 => by simp at *; omega) (fun a b => by simp; omega) xs
  exact this.imp (by simp)
theorem sortI_perm (xs : List Int) : (sortI xs).Perm xs := List.mergeSort_perm xs _
theorem sortI_uniq {xs ys : List Int} (p : ys.Perm xs) (h : ys.Pairwise (· ≤ ·)) : ys = sortI xs :=
  List.Perm.eq_of_pairwise (le := fun a b => a ≤ b) (fun a b _ _ h1 h2 => Int.le_antisymm h1 h2) h (sortI_pw xs) (p.trans (sortI_perm xs).symm)
theorem sortI_two (a b : Int) : sortI [a, b] = [min a b, max a b] := by
  refine (sortI_uniq ?_ ?_).symm
  · rcases Int.le_total a b with h | h
    · rw [Int.min_eq_left h, Int.max_eq_right h]
    · rw [Int.min_eq_right h, Int.max_eq_left h]; exact List.Perm.swap _ _ _
  · simp; omega
noncomputable def fSortedA : OA := fun xs S => match xs with
  | [x] => match (lstOf x S).bind intsOf with
    | some ns => some (.tmp ((sortI ns).map .int))
    | none => fSorted [x] S
  | _ => none
section
variable {X : Cx} {T : List (Addr × Str)} {W : WX} {a b c e : Expr} {da db dc d : DE} {pos : Pos}
theorem cz_sortedA : CallR X (.builtin "sorted") (rOfX (yOf X T) fSortedA) := by
  intro pins s σ H vs us Q I r ⟨M, S, xs, z, rs, rx, e, q⟩
  unfold fSortedA at e
  split at e
  · split at e
    · rename_i ns h0
      cases e
      simp only [Option.bind_eq_some_iff] at h0
      obtain ⟨ys, e1, e2⟩ := h0
      obtain ⟨v, rfl, h1⟩ := rxs1 rx
      obtain ⟨p, vs, rfl, h2, h3⟩ := rx_lst rs h1 e1
      exact cr_sortedI pins s σ H _ us Q I r ⟨p, ns, rfl, by rw [← ints_vs h3 e2]; exact h2, fun ns' p' k1 k2 hp => by
        rw [sortI_uniq k1 k2]
        exact q.newTmp rs (rvs_ints _) hp⟩
    · exact cz_sorted pins s σ H vs us Q I r ⟨M, S, _, z, rs, rx, e, q⟩
  · cases e
/-- a, b = a new list -/
def gUnlZ (r : DGs) : DG := fun x ρ => match x with | .tmp xs => r xs ρ | _ => none
theorem zs_unl {es : List Expr} {kk : Nat} {gs : DGs} {is : List Nat} {n : Nat} {tp : Pos} (hc : X.calm = true) (hg : ZGs X T n es gs is) (he : ZE X T W e d) (hn : (assignEach es X.env).length = n := by rfl) (hst : (assignEach es X.env).findIdx? (·.1) = none := by rfl)
    (hs : swapsWithSole [.Tuple es kk tp] e pos.line X.env = pure false := by rfl) (hw : swappedStores [.Tuple es kk tp] e X.env = pure none := by rfl)
    (h1 : (assignEach [.Tuple es kk tp] X.env).map (·.2) = [assign (.Tuple es kk tp) X.env] := by rfl) : ZS X T W (.Assign [.Tuple es kk tp] e pos) (dAsg (gUnlZ gs) d) :=
  (ps_asg he (pg_unl hc hg.pgs hn hst) hs hw h1).imp fun D σ H ⟨M, ρ, S, rs, re, h⟩ => by
    refine step gOutS rs re h fun M1 S1 x v H1 n1 rs1 re1 rx1 fr1 _ h2 => ?_
    cases e1 : gUnlZ gs x ρ with
    | none => rw [e1] at h2; exact h2.elim
    | some ρ' =>
      rw [e1] at h2
      unfold gUnlZ at e1
      split at e1
      · rename_i xs e0
        obtain ⟨a, vs, rfl, g1, _, g3⟩ := rx1
        exact ⟨a, vs, rfl, SqL.of g1, by rw [g3.length, hg.len _ _ _ e1], M1, ρ, xs, ρ', re1, g3, e1, fun σ' re' _ => h2 M1 H1 σ' Nxt.refl rs1 re'⟩
      · cases e1
end
/-! ### reckoning -/
section
variable {ρ : LEnv} {S : Store} {xs ks vs : List PV} {da db dc d : DE} {i j : Nat} {n k : Int}
@[simp] theorem dDnew_eq : dDnew ρ S = .ok (.tmd [] []) S := rfl
@[simp] theorem dDget2_eq : dDget2 da db dc ρ S = (da ρ S).bind fun o S1 => if (dicOf o S1).isSome = true then (db ρ S1).bind fun i S2 => (dc ρ S2).bind fun x S3 => match x with
  | .int _ => ofO (match dicOf o S3, keyOf i with | some p, some k => some ((lookP p.1 p.2 k).getD x) | _, _ => none) S3
  | .non => ofO (match dicOf o S3, keyOf i with | some p, some k => some ((lookP p.1 p.2 k).getD x) | _, _ => none) S3
  | _ => .bad else .bad := rfl
@[simp] theorem dDput_eq {dv do_ di : DE} : dDput dv do_ di ρ S = (dv ρ S).bind fun v S1 => (bnd v S1).bind fun v S2 => (do_ ρ S2).bind fun o S3 => (di ρ S3).bind fun i S4 => match o, keyOf i with
  | .ref .dic n, some k => match S4[n]? with
    | some (.dic ks vs) => if ks.length < 16777216 then .ok (.nx ρ) (S4.set n (.dic (putP ks vs k v).1 (putP ks vs k v).2)) else .bad
    | _ => .bad
  | _, _ => .bad := rfl
@[simp] theorem bnd_tmd : bnd (.tmd ks vs) S = .ok (.ref .dic S.length) (S ++ [.dic ks vs]) := rfl
@[simp] theorem dicOf_tmd : dicOf (.tmd ks vs) S = some (ks, vs) := rfl
@[simp] theorem gUnlZ_eq {gs : DGs} : gUnlZ gs (.tmp xs) ρ = gs xs ρ := rfl
@[simp] theorem dAugP_eq {g : OP} : dAugP i g d ρ S = match ρ[i]? with
  | some (some x) => (d ρ S).bind fun y S1 => match g x y S1 with | some (z, S2) => (bnd z S2).bind fun z S3 => .ok (.nx (ρ.set i (some z))) S3 | none => .bad
  | _ => .bad := rfl
@[simp] theorem fSortedA_ints {ns : List Int} : fSortedA [.tmp (ns.map .int)] S = some (.tmp ((sortI ns).map .int)) := by simp [fSortedA, -List.map_map]
@[simp] theorem cV_tmd {n : Nat} : cV n (.tmd ks vs) = vs.all (cV n) := by simp [cV]
end
end Z
namespace Z
open PySem L2
theorem hu1 {k : Nat} {A : Around} (hr : Room k A) : A.units + 1 < cLine := by have := hr.un; omega
end Z
namespace Z
open PySem L2
@[simp] theorem fSortedA_tup {ss : List Str} {S : Store} : fSortedA [.tup (ss.map .str)] S = some (.tmp ((sortS ss).map .str)) := by
  simp only [fSortedA, lstOf_tup, Option.bind_none]
  exact fSorted_tup
@[simp] theorem fSortedA_tmp {ss : List Str} {S : Store} : fSortedA [.tmp (ss.map .str)] S = some (.tmp ((sortS ss).map .str)) := by
  cases ss with
  | nil =>
    have e : sortS [] = [] := by simp [sortS]
    have e2 : sortI [] = [] := by simp [sortI]
    simp [fSortedA, intsOf, e, e2]
  | cons s r =>
    have : fSortedA [.tmp ((s :: r).map .str)] S = fSorted [.tmp ((s :: r).map .str)] S := by
      simp [fSortedA, intsOf]
    rw [this]; exact fSorted_tmp
end Z

set_option Elab.async false
set_option linter.all false
set_option maxRecDepth 100000
set_option maxHeartbeats 2000000
/-! # ZS: y = {k: v for ..}, range downward -/
namespace Z
open PySem PySem.Spec PyProof.Rows L2
theorem sw_trueD {kx vx : Expr} {gs : List Comprehension} {scope : Scope} {pos py : Pos} {y : Str} {l : Nat} {env : Env} (hk : env.scope.kind = .function) (hy : env.scope.names.lookup y = some .local) (hl : (py.line == pos.line) = true)
    (ha : (scope.names.any fun (n, k) => n == y && (k == .local || k == .cell)) = false) : swapsWith (.DictComp kx vx gs scope pos) (some (.Name y py)) l env = pure true := by
  have ky : env.kindOf y = some .local := hy
  have hb : env.blockKind = .function := by unfold Env.blockKind; rw [hk]; rfl
  unfold swapsWith
  simp only [hb, ky, ha, Expr.pos, hl]
  rfl
section
variable {X : Cx} {T : List (Addr × Str)} {W : WX}
theorem ps_setDc {i : Nat} {y : Str} {py : Pos} {kx vx tg iter : Expr} {ifs : List Expr} {scope : Scope} {own : List (Str × Nat)} {pos spos : Pos} {wi : TI} {g : TG} {tt : TT} {tk tv : TE} (hc : X.calm = true) (hN : X.N.Nodup) (hy : X.N[i]? = some y) (hyl : X.env.scope.names.lookup y = some .local)
    (hsw : swapsWith (.DictComp kx vx [⟨tg, iter, ifs, 0⟩] scope pos) (some (.Name y py)) spos.line X.env = pure true) (hi : PI X tg iter wi) (ok : BlkOk X.N X.env.scope scope own)
    (hg : ∀ (s : Shared) (H : Hp) (C : Addr) (cl : List (Str × Addr)) (fp : List Addr), PG (X.blk s H scope (compEnvC scope cl C X.env) fp) tg g) (ht : ∀ (s : Shared) (H : Hp) (C : Addr) (cl : List (Str × Addr)) (fp : List Addr), PTs (X.blk s H scope (compEnvC scope cl C X.env) fp) ifs tt)
    (hk : ∀ (s : Shared) (H : Hp) (C : Addr) (cl : List (Str × Addr)) (fp : List Addr), PE (X.blk s H scope (compEnvC scope cl C X.env) fp) kx tk)
    (he : ∀ (s : Shared) (H : Hp) (C : Addr) (cl : List (Str × Addr)) (fp : List Addr), PE (X.blk s H scope (compEnvC scope cl C X.env) fp) vx tv) (hs : ∀ x, foldedSetIterable iter X.env x = pure x := by intro _; rfl) :
    PS X (.Assign [.Name y py] (.DictComp kx vx [⟨tg, iter, ifs, 0⟩] scope pos) spos) (tAsg (tDc wi g tt tk tv (own.map (·.2))) (gName i)) := by
  refine ⟨fun pins s σ H D I h => ?_⟩
  rw [exec_Assign_Name_used _ _ _ _ hsw]
  refine wpAny_bind (wpAny_standAt (wpAny_bind ?_))
  show wpAny _ X.A (do let _ ← comprehension (.DictComp kx vx [⟨tg, iter, ifs, 0⟩] scope pos) scope X.env (firstIterPos [⟨tg, iter, ifs, 0⟩] pos) newDict false (eval iter X.env) (some (assign (.Name y py) X.env))) _ _ s
  have h : tDc wi g tt tk tv (own.map (·.2)) σ H (fun x H1 => gName i x σ H1 D.nx) := h
  refine wpAny_bind (thn (dc_core (Qf := fun _ s' => SP X pins D .next s') hc hN I hi ok hg ht hk he hs h fun L C s' m H' I' q hn f => ?_) fun _ s' hq => wpAny_pure (wpAny_pure hq))
  show wpAny _ _ (assign (.Name y py) X.env (.ref L)) _ _ _
  refine wpAny_assign_Name (store_ok2 (v := V.ref L) I' hN hy (.inl hyl) rfl (fun s2 I2 ⟨a, sb, ha⟩ => ?_) (.inr hyl))
  obtain ⟨f0, f1, f2, f3, f4, f5⟩ := f
  have haC : C ≠ a := by
    rcases ha with z | z
    · rw [z]; exact f1
    · exact fun e => f4 y a z e.symm
  refine ⟨m, hn.sameBut sb haC, fun h3 sb3 => ?_⟩
  exact ⟨_, H', I2.turned (t' := s2.toks) (fun b o hb e => (sb3.2 b hb).trans e) f0 f1 f3 f4 f5, q⟩
theorem zs_setDc {i : Nat} {y : Str} {py spos pos : Pos} {kx vx tg iter : Expr} {ifs : List Expr} {scope : Scope} {own : List (Str × Nat)} {k : Bool} {di : DI} {g : DG} {t : DT} {ek ev : DE} {is : List Nat} (hc : X.calm = true) (hN : X.N.Nodup) (hy : X.N[i]? = some y) (hyl : X.env.scope.names.lookup y = some .local)
    (hsw : swapsWith (.DictComp kx vx [⟨tg, iter, ifs, 0⟩] scope pos) (some (.Name y py)) spos.line X.env = pure true) (hi : ZI X T W k tg iter di) (ok : BlkOk X.N X.env.scope scope own) (hv : ∀ i ∈ is, i ∈ own.map (·.2))
    (hg : ∀ (s : Shared) (H : Hp) (C : Addr) (cl : List (Str × Addr)) (fp : List Addr), ZG (X.blk s H scope (compEnvC scope cl C X.env) fp) T k tg g is) (ht : ∀ (s : Shared) (H : Hp) (C : Addr) (cl : List (Str × Addr)) (fp : List Addr), ZTs (X.blk s H scope (compEnvC scope cl C X.env) fp) T W0 ifs t)
    (hk : ∀ (s : Shared) (H : Hp) (C : Addr) (cl : List (Str × Addr)) (fp : List Addr), ZE (X.blk s H scope (compEnvC scope cl C X.env) fp) T W0 kx ek)
    (he : ∀ (s : Shared) (H : Hp) (C : Addr) (cl : List (Str × Addr)) (fp : List Addr), ZE (X.blk s H scope (compEnvC scope cl C X.env) fp) T W0 vx ev) (hs : ∀ x, foldedSetIterable iter X.env x = pure x := by intro _; rfl) :
    ZS X T W (.Assign [.Name y py] (.DictComp kx vx [⟨tg, iter, ifs, 0⟩] scope pos) spos) (dSet i (dDc di g t ek ev (own.map (·.2)))) :=
  (ps_setDc hc hN hy hyl hsw hi ok hg ht hk he hs).imp fun D σ H ⟨M, ρ, S, rs, re, h⟩ => dc_tof (Q := fun x H1 => gName i x σ H1 D.nx) hv (set_out rs re h)
/-! ### range downward -/
def rngDn (lo : Int) (n : Nat) : List PV := (List.range n).map fun (i : Nat) => PV.int (lo - (i : Int))
theorem src_dn {Y : Ctx} {lo : Int} {n : Nat} : SrcOk Y false (Itc lo (-1) n) (fun _ => some (rngDn lo n)) (fun _ _ => True) where
  nxt := fun _ _ => True.intro
  go := fun {H M S xs i x} rs _ e e2 => by
    cases e
    have hi : i < n := by
      have := (List.getElem?_eq_some_iff.mp e2).1
      simpa [rngDn] using this
    refine ⟨hi, fun v H' ⟨e3, e4⟩ => ?_⟩
    subst e3 e4
    refine ⟨fun _ _ e => e, ?_⟩
    simp [rngDn, hi] at e2
    subst e2
    simp [RT, RV]
    omega
  stop := fun {H M S xs i} rs _ e hl => by
    cases e
    show n ≤ i
    exact Nat.le_of_eq (by simpa [rngDn] using hl)
def iRan3 (r : DA) : DI := fun ρ S => (r ρ S).bind fun xs S1 => match xs with
  | [.int i, .int j, .int k] => if k = -1 ∧ -(2 ^ 62) ≤ i ∧ i < 2 ^ 62 ∧ -(2 ^ 62) ≤ j ∧ j < 2 ^ 62 then .ok (fun _ => some (rngDn i (i - j).toNat)) S1 else .bad
  | _ => .bad
theorem zi_range3 {a b c : Expr} {r : DA} {tg : Expr} {p pos : Pos} (hg : Gl X "range") (hm : X.mg "range" = none) (ha : ZA X T W [a, b, c] r) (hs : starEach [a, b, c] X.env = (false, eval a X.env) :: starEach [b, c] X.env := by rfl) (hpl : (backTo pos (starEach [b, c] X.env)).any (·.1) = false := by rfl) :
    ZI X T W false tg (.Call (.Name "range" p) [a, b, c] [] pos) (iRan3 r) :=
  (pi_range3 hg hm ha hs hpl).imp fun σ H R ⟨M, ρ, S, rs, re, hh⟩ => by
    refine stepA gOutI rs re hh fun M1 S1 xs vs H1 n1 rs1 re1 rx1 _ h1 => ?_
    split at h1
    · split at h1
      · rename_i hc
        obtain ⟨rfl, hc⟩ := hc
        simp only [RVs] at rx1
        obtain ⟨v1, r1, rfl, g1, v2, r2, rfl, g2, v3, r3, rfl, g3, rfl⟩ := rx1
        simp only [RV] at g1 g2 g3
        subst g1 g2 g3
        exact ⟨_, _, -1, _, rfl, RgC.neg hc.1 hc.2.1 hc.2.2.1 hc.2.2.2, h1 M1 H1 _ _ Nxt.refl rs1 src_dn True.intro⟩
      · exact h1.elim
    · exact h1.elim
end
end Z

set_option Elab.async false
set_option linter.all false
set_option maxRecDepth 100000
set_option maxHeartbeats 2000000
/-! # ZU: loops over the images of plain lists -/
namespace Z
open PySem PySem.Spec PyProof.Rows L2
theorem map_parts {α β : Type} (f : α → β) : ∀ {xs : List α} {A B : List β}, xs.map f = A ++ B → ∃ A' B', xs = A' ++ B' ∧ A'.map f = A ∧ B'.map f = B
  | xs, [], B, h => ⟨[], xs, rfl, rfl, h⟩
  | [], a :: A, B, h => by simp at h
  | x :: xs, a :: A, B, h => by
    simp only [List.map_cons, List.cons_append, List.cons.injEq] at h
    obtain ⟨A', B', e1, e2, e3⟩ := map_parts f h.2
    exact ⟨x :: A', B', by rw [e1]; rfl, by simp [h.1, e2], e3⟩
theorem map_part1 {α β : Type} (f : α → β) {xs A0 : List α} {b : β} {B : List β} (h : xs.map f = A0.map f ++ b :: B) (hA : ∃ B0, xs = A0 ++ B0) : ∃ a B', xs = A0 ++ a :: B' ∧ f a = b := by
  obtain ⟨B0, rfl⟩ := hA
  rw [List.map_append, List.append_cancel_left_eq] at h
  cases B0 with
  | nil => simp at h
  | cons a B' => exact ⟨a, B', rfl, by simpa using (List.cons.inj h).1⟩
section
variable {α : Type} {f : SF} {g : DG} {b : DS} {t : DT} {el : DE} {vs : List Nat} {ρ : LEnv} {S S1 : Store} {F : α → PV} {xs : List α} {di : DI}
/-- for, over xs: a word that goes along -/
theorem forM (hd : di ρ S = .ok f S1) (hf1 : f S1 = some (xs.map F)) (I : List α → LEnv → Store → Prop) (hf : ∀ A ρ S, I A ρ S → f S = some (xs.map F)) (h0 : I [] ρ S1)
    (hs : ∀ A a B ρ S, xs = A ++ a :: B → I A ρ S → ∃ ρ1 ρ2 S2, g (F a) ρ = some ρ1 ∧ (b ρ1 S = .ok (.nx ρ2) S2 ∨ b ρ1 S = .ok (.ct ρ2) S2) ∧ I (A ++ [a]) ρ2 S2) :
    ∃ ρ' S', dFor di g b ρ S = .ok (.nx ρ') S' ∧ I xs ρ' S' := by
  obtain ⟨ρ', S', h1, A, h2, ⟨B, h3⟩, h4⟩ := dFor_inv (b := b) (g := g) hd hf1 (fun l ρ S => ∃ A, l = A.map F ∧ (∃ B, xs = A ++ B) ∧ I A ρ S) (fun l ρ S ⟨A, _, _, h⟩ => hf A ρ S h) ⟨[], rfl, ⟨xs, rfl⟩, h0⟩ fun l x r ρ S e ⟨A, e1, hB, hI⟩ => by
    subst e1
    obtain ⟨a, B', e2, e3⟩ := map_part1 F e.symm hB
    obtain ⟨ρ1, ρ2, S2, h1, h2, h3⟩ := hs A a B' ρ S e2 hI
    exact ⟨ρ1, ρ2, S2, by rw [← e3]; exact h1, h2, A ++ [a], by simp [e3], ⟨B', by simp [e2]⟩, h3⟩
  refine ⟨ρ', S', h1, ?_⟩
  have : B = [] := by
    have := congrArg List.length h2
    rw [h3] at this
    simp at this
    exact this
  subst this
  rw [List.append_nil] at h3
  rw [h3]; exact h4
/-- a comprehension over xs that changes nothing -/
theorem lcM (hd : di ρ S = .ok f S1) (hf : f S1 = some (xs.map F)) (p : α → Bool) (h : α → PV) (hx : ∀ a ∈ xs, ∃ ρ1, g (F a) (wipeP ρ vs) = some ρ1 ∧ t ρ1 S1 = .ok (p a) S1 ∧ (p a = true → el ρ1 S1 = .ok (h a) S1 ∧ bnd (h a) S1 = .ok (h a) S1)) (hl : xs.length ≤ 16777216) :
    dLc di g t el vs ρ S = .ok (.tmp ((xs.filter p).map h)) S1 := by
  have key : ∀ (l : List α) (acc : List PV), (∀ a ∈ l, a ∈ xs) → acc.length + l.length ≤ 16777216 → lcL f (xs.map F) g t el vs ρ (l.map F) acc S1 = .ok (acc ++ (l.filter p).map h) S1 := by
    intro l
    induction l with
    | nil => intro acc _ _; simp [lcL, hf]
    | cons a l ih =>
      intro acc hm hl
      obtain ⟨ρ1, h1, h2, h3⟩ := hx a (hm a List.mem_cons_self)
      simp only [List.length_cons] at hl
      rw [List.map_cons, lcL, if_pos hf, h1]
      simp only [h2, Res.calm_ok, Res.bind_ok]
      by_cases hp : p a = true
      · obtain ⟨h4, h5⟩ := h3 hp
        rw [if_pos hp, h4]
        simp only [Res.calm_ok, Res.bind_ok, h5]
        rw [if_pos (by omega), ih _ (fun b hb => hm b (List.mem_cons_of_mem _ hb)) (by simp; omega)]
        simp [hp]
      · rw [if_neg hp, ih _ (fun b hb => hm b (List.mem_cons_of_mem _ hb)) (by omega)]
        simp [hp]
  unfold dLc
  rw [hd]
  simp only [Res.bind_ok, hf]
  rw [key xs [] (fun a h => h) (by simpa using hl)]
  simp
theorem lcM_all (hd : di ρ S = .ok f S1) (hf : f S1 = some (xs.map F)) (h : α → PV) (hx : ∀ a ∈ xs, ∃ ρ1, g (F a) (wipeP ρ vs) = some ρ1 ∧ el ρ1 S1 = .ok (h a) S1 ∧ bnd (h a) S1 = .ok (h a) S1) (hl : xs.length ≤ 16777216) :
    dLc di g dYes el vs ρ S = .ok (.tmp (xs.map h)) S1 := by
  have := lcM (t := dYes) (p := fun _ => true) hd hf h (fun a ha => let ⟨ρ1, h1, h2⟩ := hx a ha; ⟨ρ1, h1, rfl, fun _ => h2⟩) hl
  rw [List.filter_eq_self.mpr (fun _ _ => rfl)] at this
  exact this
/-- .. with a word that goes along -/
theorem lcM_inv (hd : di ρ S = .ok f S1) (hf1 : f S1 = some (xs.map F)) (I : List α → List PV → Store → Prop) (hf : ∀ A acc S, I A acc S → f S = some (xs.map F)) (h0 : I [] [] S1)
    (hs : ∀ A a B acc S, xs = A ++ a :: B → I A acc S → ∃ ρ1 k S1, g (F a) (wipeP ρ vs) = some ρ1 ∧ t ρ1 S = .ok k S1 ∧ (k = false → I (A ++ [a]) acc S1) ∧ (k = true → ∃ y S2 z S3, el ρ1 S1 = .ok y S2 ∧ bnd y S2 = .ok z S3 ∧ acc.length < 16777216 ∧ I (A ++ [a]) (acc ++ [z]) S3)) :
    ∃ ys S', dLc di g t el vs ρ S = .ok (.tmp ys) S' ∧ I xs ys S' := by
  obtain ⟨ys, S', h1, A, h2, ⟨B, h3⟩, h4⟩ := dLc_inv (t := t) (el := el) (vs := vs) (g := g) hd hf1 (fun l acc S => ∃ A, l = A.map F ∧ (∃ B, xs = A ++ B) ∧ I A acc S) (fun l acc S ⟨A, _, _, h⟩ => hf A acc S h) ⟨[], rfl, ⟨xs, rfl⟩, h0⟩ fun l x r acc S e ⟨A, e1, hB, hI⟩ => by
    subst e1
    obtain ⟨a, B', e2, e3⟩ := map_part1 F e.symm hB
    obtain ⟨ρ1, k, S2, h1, h2, h3, h4⟩ := hs A a B' acc S e2 hI
    refine ⟨ρ1, k, S2, by rw [← e3]; exact h1, h2, fun hk => ⟨A ++ [a], by simp [e3], ⟨B', by simp [e2]⟩, h3 hk⟩, fun hk => ?_⟩
    obtain ⟨y, S3, z, S4, q1, q2, q3, q4⟩ := h4 hk
    exact ⟨y, S3, z, S4, q1, q2, q3, A ++ [a], by simp [e3], ⟨B', by simp [e2]⟩, q4⟩
  refine ⟨ys, S', h1, ?_⟩
  have : B = [] := by
    have := congrArg List.length h2
    rw [h3] at this
    simp at this
    exact this
  subst this
  rw [List.append_nil] at h3
  rw [h3]; exact h4
/-- a dict comprehension over xs, with a word that goes along -/
theorem dcM_inv {ek ev : DE} (hd : di ρ S = .ok f S1) (hf1 : f S1 = some (xs.map F)) (I : List α → List PV → List PV → Store → Prop) (hf : ∀ A ka va S, I A ka va S → f S = some (xs.map F)) (h0 : I [] [] [] S1)
    (hs : ∀ A a B ka va S, xs = A ++ a :: B → I A ka va S → ∃ ρ1 y k S2 z S3 z' S4, g (F a) (wipeP ρ vs) = some ρ1 ∧ ek ρ1 S = .ok y S2 ∧ keyOf y = some k ∧ ev ρ1 S2 = .ok z S3 ∧ bnd z S3 = .ok z' S4 ∧ ka.length < 16777216 ∧ I (A ++ [a]) (putP ka va k z').1 (putP ka va k z').2 S4) :
    ∃ ka va S', dDc di g dYes ek ev vs ρ S = .ok (.tmd ka va) S' ∧ I xs ka va S' := by
  have key : ∀ (B A : List α) (ka va : List PV) (S : Store), xs = A ++ B → I A ka va S → ∃ p S', dcL f (xs.map F) g dYes ek ev vs ρ (B.map F) ka va S = .ok p S' ∧ I xs p.1 p.2 S' := by
    intro B
    induction B with
    | nil => intro A ka va S e hI; exact ⟨(ka, va), S, by simp [dcL, hf A ka va S hI], by rw [e, List.append_nil]; exact hI⟩
    | cons a B ih =>
      intro A ka va S e hI
      obtain ⟨ρ1, y, k, S2, z, S3, z', S4, h1, h2, h3, h4, h5, h6, h7⟩ := hs A a B ka va S e hI
      obtain ⟨p, S', q1, q2⟩ := ih (A ++ [a]) _ _ S4 (by rw [e]; simp) h7
      refine ⟨p, S', ?_, q2⟩
      rw [List.map_cons, dcL, if_pos (hf A ka va S hI), h1]
      simp only [dYes_eq, Res.calm_ok, Res.bind_ok, if_true, h2, h3, h4, h5]
      rw [if_pos h6]
      exact q1
  obtain ⟨p, S', h1, h2⟩ := key xs [] [] [] S1 rfl h0
  refine ⟨p.1, p.2, S', ?_, h2⟩
  unfold dDc
  rw [hd]
  simp only [Res.bind_ok, hf1, h1]
end
theorem gc_newD {S E : Store} {i : Nat} {ks vs : List PV} (hi : S.length ≤ i) (he : (S ++ E)[i]? = some (.dic ks vs)) (hx : vs.all (cV S.length) = true) : gc S (.ref .dic i) (S ++ E) = .ok (.tmd ks vs) S := by
  have e : outV S.length (.ref .dic i) (S ++ E) = .tmd ks vs := by simp [outV, hi, he]
  unfold gc
  rw [e, if_pos ⟨fun i c hi h => .inl (by rw [List.getElem?_append_left hi] at h; exact h), by simpa using hx⟩]
  simp
theorem set_snoc {S : Store} {c c' : Cell} : (S ++ [c]).set S.length c' = S ++ [c'] := by simp
theorem get_snoc {S : Store} {c : Cell} : (S ++ [c])[S.length]? = some c := by simp
theorem get_app {S E : Store} {i : Nat} {c : Cell} (h : S[i]? = some c) : (S ++ E)[i]? = some c := by rw [List.getElem?_append_left (List.getElem?_eq_some_iff.mp h).1]; exact h
section
variable {r : DA} {ρ : LEnv} {S S1 : Store} {i j : Int}
theorem ran1_ok (h : r ρ S = .ok [.int j] S1) (h1 : -1000000 ≤ j) (h2 : j ≤ 1000000) : iRan1 r ρ S = .ok (fun _ => some (rngL 0 j.toNat)) S1 := by
  have h62 : (2 : Int) ^ 62 = 4611686018427387904 := by decide
  unfold iRan1
  rw [h]
  simp only [Res.bind_ok]
  rw [h62, if_pos (by omega)]
theorem ran2_ok (h : r ρ S = .ok [.int i, .int j] S1) (h1 : -1000000 ≤ i) (h2 : i ≤ 1000000) (h3 : -1000000 ≤ j) (h4 : j ≤ 1000000) : iRan2 r ρ S = .ok (fun _ => some (rngL i (j - i).toNat)) S1 := by
  have h62 : (2 : Int) ^ 62 = 4611686018427387904 := by decide
  unfold iRan2
  rw [h]
  simp only [Res.bind_ok]
  rw [h62, if_pos (by omega)]
theorem ran3_ok (h : r ρ S = .ok [.int i, .int j, .int (-1)] S1) (h1 : -1000000 ≤ i) (h2 : i ≤ 1000000) (h3 : -1000000 ≤ j) (h4 : j ≤ 1000000) : iRan3 r ρ S = .ok (fun _ => some (rngDn i (i - j).toNat)) S1 := by
  have h62 : (2 : Int) ^ 62 = 4611686018427387904 := by decide
  unfold iRan3
  rw [h]
  simp only [Res.bind_ok]
  rw [h62, if_pos ⟨True.intro, by omega, by omega, by omega, by omega⟩]
end
/-! ### runs put together -/
section
variable {a b : DS} {d : DE} {t : DT} {ρ ρ1 : LEnv} {S S1 S2 : Store} {r : Res Fl} {x y : PV} {i : Nat}
theorem seq_nx (h1 : a ρ S = .ok (.nx ρ1) S1) (h2 : b ρ1 S1 = r) : dSeq a b ρ S = r := by rw [dSeq_eq, h1]; exact h2
theorem seq_rt (h1 : a ρ S = .ok (.rt x) S1) : dSeq a b ρ S = .ok (.rt x) S1 := by rw [dSeq_eq, h1]; rfl
theorem seq_ct (h1 : a ρ S = .ok (.ct ρ1) S1) : dSeq a b ρ S = .ok (.ct ρ1) S1 := by rw [dSeq_eq, h1]; rfl
theorem ret_ok (h : d ρ S = .ok x S1) : dRet d ρ S = .ok (.rt x) S1 := by rw [dRet_eq, h]; rfl
theorem drop_ok (h : d ρ S = .ok x S1) : dDrop d ρ S = .ok (.nx ρ) S1 := by rw [dDrop_eq, h]; rfl
theorem set_ok (h : d ρ S = .ok x S1) (hb : bnd x S1 = .ok y S2) : dSet i d ρ S = .ok (.nx (ρ.set i (some y))) S2 := by rw [dSet_eq, h]; simp only [Res.bind_ok, hb]
theorem ifs_t (h : t ρ S = .ok true S1) (h2 : a ρ S1 = r) : dIfS t a b ρ S = r := by rw [dIfS_eq, h]; exact h2
theorem ifs_f (h : t ρ S = .ok false S1) (h2 : b ρ S1 = r) : dIfS t a b ρ S = r := by rw [dIfS_eq, h]; exact h2
theorem ifs_b {k : Bool} (h : t ρ S = .ok k S1) (h2 : (if k = true then a ρ S1 else b ρ S1) = r) : dIfS t a b ρ S = r := by rw [dIfS_eq, h]; exact h2
theorem fn_rt {m : Nat} {xs : List PV} {r : Res PV} (h : b (xs.map some ++ List.replicate (m - xs.length) none) S = .ok (.rt x) S1) (hg : gc S x S1 = r) : mkFn m b xs S = r := by unfold mkFn; rw [h]; exact hg
theorem fn_nx {m : Nat} {xs : List PV} {r : Res PV} (h : b (xs.map some ++ List.replicate (m - xs.length) none) S = .ok (.nx ρ1) S1) (hg : gc S .non S1 = r) : mkFn m b xs S = r := by unfold mkFn; rw [h]; exact hg
theorem call_ok {n : Nat} {f : PF} {r : DA} {xs : List PV} (h : r ρ S = .ok xs S1) (hl : xs.length = n) (hf : f xs S1 = .ok x S2) : dCall n f r ρ S = .ok x S2 := by rw [dCall_eq, h]; simp only [Res.bind_ok]; rw [if_pos hl, hf]; rfl
theorem cons_ok {r : DA} {ys : List PV} {S3 : Store} (h : d ρ S = .ok x S1) (hb : bnd x S1 = .ok y S2) (hr : r ρ S2 = .ok ys S3) : dCons d r ρ S = .ok (y :: ys) S3 := by rw [dCons_eq, h]; simp only [Res.bind_ok, hb, hr]
theorem nil_ok : dNil ρ S = .ok [] S := rfl
theorem var_ok (h : ρ[i]? = some (some x)) : dVar i ρ S = .ok x S := by rw [dVar_eq, h]
theorem lit_ok : dLit x ρ S = .ok x S := rfl
theorem bin_ok {g : O2} {d2 : DE} {z : PV} (h1 : d ρ S = .ok x S1) (h2 : d2 ρ S1 = .ok y S2) (hg : g x y S2 = some z) : dBin g d d2 ρ S = .ok z S2 := by rw [dBin_eq, h1]; simp only [Res.bind_ok, h2, hg, ofO_some]
theorem tst_ok {k : Bool} (h : d ρ S = .ok (.bl k) S1) : dTst d ρ S = .ok k S1 := by rw [dTst_eq, h]; rfl
theorem fn1_ok {g : OA} {z : PV} (h : d ρ S = .ok x S1) (hg : g [x] S1 = some z) : dFn g (dConsX d dNil) ρ S = .ok z S1 := by rw [dFn_eq, dConsX_eq, h]; simp only [Res.bind_ok, dNil_eq, hg, ofO_some]
theorem meth_ok {T : BT} {g : OM} {r : DA} {xs : List PV} {z : PV} {S3 : Store} (h : d ρ S = .ok x S1) (ht : isT T x = some true) (hr : r ρ S1 = .ok xs S2) (hg : g x xs S2 = some (z, S3)) : dMeth T g d r ρ S = .ok z S3 := by rw [dMeth_eq, h]; simp only [Res.bind_ok]; rw [if_pos ht, hr]; simp only [Res.bind_ok, hg, ofP_some]
theorem meth2_ok {g : OM} {r : DA} {xs : List PV} {z : PV} {S3 : Store} (h : d ρ S = .ok x S1) (ht : isT .list x = some true ∨ isT .tuple x = some true) (hr : r ρ S1 = .ok xs S2) (hg : g x xs S2 = some (z, S3)) : dMeth2 g d r ρ S = .ok z S3 := by rw [dMeth2_eq, h]; simp only [Res.bind_ok]; rw [if_pos ht, hr]; simp only [Res.bind_ok, hg, ofP_some]
theorem not_ok {k : Bool} (h : t ρ S = .ok k S1) : dNotT t ρ S = .ok (!k) S1 := by rw [dNotT_eq, h]; rfl
theorem and_f {t2 : DT} (h : t ρ S = .ok false S1) : dAndT t t2 ρ S = .ok false S1 := by rw [dAndT_eq, h]; rfl
theorem and_t {t2 : DT} {k : Bool} (h : t ρ S = .ok true S1) (h2 : t2 ρ S1 = .ok k S2) : dAndT t t2 ρ S = .ok k S2 := by rw [dAndT_eq, h]; exact h2
theorem or_t {t2 : DT} (h : t ρ S = .ok true S1) : dOrT t t2 ρ S = .ok true S1 := by rw [dOrT_eq, h]; rfl
theorem or_f {t2 : DT} {k : Bool} (h : t ρ S = .ok false S1) (h2 : t2 ρ S1 = .ok k S2) : dOrT t t2 ρ S = .ok k S2 := by rw [dOrT_eq, h]; exact h2
theorem tup_ok {r : DA} {xs : List PV} (h : r ρ S = .ok xs S1) (hl : xs.length ≤ 1000000) : dTup r ρ S = .ok (.tup xs) S1 := by
  rw [dTup_eq, h]; simp only [Res.bind_ok]; rw [if_pos (by omega)]
theorem lst_ok {r : DA} {xs : List PV} (h : r ρ S = .ok xs S1) (hl : xs.length ≤ 1000000) : dLst r ρ S = .ok (.tmp xs) S1 := by
  rw [dLst_eq, h]; simp only [Res.bind_ok]; rw [if_pos (by omega)]
theorem par_ok {r : DA} {j : Nat} (h : r ρ S = .ok [x, y] S1) : dPar i j r ρ S = .ok (.nx ((ρ.set i (some x)).set j (some y))) S1 := by rw [dPar_eq, h]; rfl
theorem asg_ok {g : DG} {ρ' : LEnv} (h : d ρ S = .ok x S1) (hg : g x ρ = some ρ') : dAsg g d ρ S = .ok (.nx ρ') S1 := by rw [dAsg_eq, h]; simp only [Res.bind_ok, hg]
theorem and_vf {d2 : DE} (h : d ρ S = .ok (.bl false) S1) : dAnd d d2 ρ S = .ok (.bl false) S1 := by rw [dAnd_eq, h]; rfl
theorem and_vt {d2 : DE} (h : d ρ S = .ok (.bl true) S1) (h2 : d2 ρ S1 = .ok x S2) : dAnd d d2 ρ S = .ok x S2 := by rw [dAnd_eq, h]; exact h2
theorem if_t {d2 : DE} (h : t ρ S = .ok true S1) (h2 : d ρ S1 = .ok x S2) : dIf t d d2 ρ S = .ok x S2 := by rw [dIf_eq, h]; exact h2
theorem if_f {d2 : DE} (h : t ρ S = .ok false S1) (h2 : d2 ρ S1 = .ok x S2) : dIf t d d2 ρ S = .ok x S2 := by rw [dIf_eq, h]; exact h2
theorem aug_ok {g : OP} {w z : PV} {S3 : Store} (hv : ρ[i]? = some (some w)) (h : d ρ S = .ok x S1) (hg : g w x S1 = some (z, S2)) (hb : bnd z S2 = .ok y S3) : dAugP i g d ρ S = .ok (.nx (ρ.set i (some y))) S3 := by rw [dAugP_eq, hv]; simp only [h, Res.bind_ok, hg, hb]
theorem un_ok {g : O1} {z : PV} (h : d ρ S = .ok x S1) (hg : g x S1 = some z) : dUn g d ρ S = .ok z S1 := by rw [dUn_eq, h]; simp only [Res.bind_ok, hg, ofO_some]
theorem isi_ok {ts : List BT} {k : Bool} (h : d ρ S = .ok x S1) (hi : isTs ts x = some k) : dIsi ts d ρ S = .ok (.bl k) S1 := by rw [dIsi_eq, h]; simp only [Res.bind_ok, hi, Option.map_some, ofO_some]
theorem nat_sum (ks : List Nat) : (ks.map fun (k : Nat) => (k : Int)).sum = (ks.sum : Nat) := by
  induction ks with
  | nil => rfl
  | cons k ks ih => simp [ih]
end
end Z

set_option linter.all false
namespace My
/-! # rows of passings, in plain lists -/
section
variable {α : Type} [DecidableEq α]
/-- how many each lets pass -/
def pas (O : List α) : List α → List Nat
  | [] => []
  | n :: r => (r.countP fun x => decide (O.idxOf x < O.idxOf n)) :: pas O r
/-- the row to an order -/
def rowTo : List α → List α → List α
  | [], _ => []
  | n :: O, N => List.replicate (N.idxOf n) n ++ rowTo O (N.erase n)
abbrev Ln (α : Type) := List (α × Int)
/-- one passing -/
def step1 (n : α) : Ln α → Option (Ln α)
  | [] => none
  | [_] => none
  | p :: q :: r => if p.1 = n then none else if q.1 = n then (if p.2 = 0 then none else some (q :: (p.1, p.2 - 1) :: r)) else (step1 n (q :: r)).map (p :: ·)
def doRow : List α → Ln α → Option (Ln α)
  | [], L => some L
  | n :: r, L => (step1 n L).bind (doRow r)
theorem doRow_append : ∀ (r s : List α) (L : Ln α), doRow (r ++ s) L = (doRow r L).bind (doRow s)
  | [], s, L => rfl
  | n :: r, s, L => by
    show (step1 n L).bind (doRow (r ++ s)) = ((step1 n L).bind (doRow r)).bind (doRow s)
    cases step1 n L with
    | none => rfl
    | some L' => exact doRow_append r s L'
/-- a passing behind those that stand ahead -/
theorem step1_at (n : α) : ∀ (A : Ln α) (b x : α × Int) (C : Ln α), (∀ p ∈ A, p.1 ≠ n) → b.1 ≠ n → x.1 = n → b.2 ≠ 0 → step1 n (A ++ b :: x :: C) = some (A ++ x :: (b.1, b.2 - 1) :: C)
  | [], b, x, C, _, hb, hx, h0 => by
    show step1 n (b :: x :: C) = _
    rw [step1, if_neg hb, if_pos hx, if_neg h0]
    rfl
  | [a], b, x, C, hA, hb, hx, h0 => by
    have ih := step1_at n [] b x C (by simp) hb hx h0
    show step1 n (a :: b :: x :: C) = _
    rw [step1, if_neg (hA a (by simp)), if_neg hb]
    simp only [List.nil_append] at ih
    rw [ih]
    rfl
  | a :: a' :: A, b, x, C, hA, hb, hx, h0 => by
    have ih := step1_at n (a' :: A) b x C (fun p hp => hA p (by simp at hp ⊢; right; exact hp)) hb hx h0
    show step1 n (a :: a' :: (A ++ b :: x :: C)) = _
    rw [step1, if_neg (hA a (by simp)), if_neg (hA a' (by simp))]
    simp only [List.cons_append] at ih
    rw [ih]
    rfl
/-- lets less by one -/
def dec1 (p : α × Int) : α × Int := (p.1, p.2 - 1)
theorem doRow_rep (n : α) : ∀ (k : Nat) (A B : Ln α) (x : α × Int) (C : Ln α), B.length = k → (∀ p ∈ A, p.1 ≠ n) → (∀ p ∈ B, p.1 ≠ n ∧ p.2 ≠ 0) → x.1 = n → doRow (List.replicate k n) (A ++ (B ++ x :: C)) = some (A ++ x :: (B.map dec1 ++ C))
  | 0, A, B, x, C, hB, _, _, _ => by
    have : B = [] := List.length_eq_zero_iff.mp hB
    subst this
    rfl
  | k + 1, A, B, x, C, hB, hA, hBn, hx => by
    have hne : B ≠ [] := fun h => by rw [h] at hB; cases hB
    obtain ⟨B', b, rfl⟩ : ∃ B' b, B = B' ++ [b] := ⟨B.dropLast, B.getLast hne, (List.dropLast_concat_getLast hne).symm⟩
    have hb := hBn b (by simp)
    have e : A ++ ((B' ++ [b]) ++ x :: C) = (A ++ B') ++ b :: x :: C := by simp
    have s := step1_at n (A ++ B') b x C (fun p hp => by
      rcases List.mem_append.mp hp with hp | hp
      · exact hA p hp
      · exact (hBn p (by simp [hp])).1) hb.1 hx hb.2
    have ih := doRow_rep n k A B' x ((b.1, b.2 - 1) :: C) (by simpa using hB) hA (fun p hp => hBn p (by simp [hp])) hx
    rw [List.replicate_succ, doRow, e, s]
    simp only [Option.bind_some]
    rw [List.append_assoc, ih]
    simp [dec1]
theorem idx_split : ∀ (N : List α) (n : α), n ∈ N → ∃ B C, N = B ++ n :: C ∧ n ∉ B ∧ N.idxOf n = B.length ∧ N.erase n = B ++ C
  | [], n, h => by cases h
  | x :: N, n, h => by
    by_cases e : x = n
    · subst e
      exact ⟨[], N, rfl, by simp, by simp, by simp⟩
    · have h : n ∈ N := by
        rcases List.mem_cons.mp h with h | h
        · exact absurd h.symm e
        · exact h
      obtain ⟨B, C, h1, h2, h3, h4⟩ := idx_split N n h
      have eb : (x == n) = false := by simpa using e
      refine ⟨x :: B, C, by rw [h1]; rfl, ?_, ?_, ?_⟩
      · intro hm
        rcases List.mem_cons.mp hm with hm | hm
        · exact e hm.symm
        · exact h2 hm
      · rw [List.idxOf_cons, h3]
        simp [eb]
      · rw [List.erase_cons, h4]
        simp [eb]
theorem idx_cons_ne {n x : α} {O : List α} (h : x ≠ n) : (n :: O).idxOf x = O.idxOf x + 1 := by
  have eb : (n == x) = false := by simpa using fun e : n = x => h e.symm
  rw [List.idxOf_cons]
  simp [eb]
/-- the first of an order is passed by nobody here; those ahead of the first let it pass -/
theorem pas_behind {n : α} {O : List α} : ∀ {C : List α}, n ∉ C → pas (n :: O) C = pas O C
  | [], _ => rfl
  | x :: C, h => by
    have hx : x ≠ n := fun e => h (by rw [e]; simp)
    have hC : n ∉ C := fun e => h (by simp [e])
    rw [pas, pas, pas_behind hC]
    congr 1
    refine List.countP_congr fun y hy => ?_
    have hy : y ≠ n := fun e => hC (by rw [← e]; exact hy)
    simp [idx_cons_ne hx, idx_cons_ne hy]
theorem pas_first {n : α} {O : List α} : ∀ {B C : List α}, (B ++ n :: C).Nodup → pas (n :: O) (B ++ n :: C) = ((pas O (B ++ C)).take B.length).map (· + 1) ++ 0 :: (pas O (B ++ C)).drop B.length
  | [], C, h => by
    have hC : n ∉ C := (List.nodup_cons.mp h).1
    simp only [List.nil_append, List.length_nil, List.take_zero, List.map_nil, List.drop_zero]
    rw [pas, pas_behind hC]
    congr 1
    rw [List.countP_eq_zero]
    intro y hy
    simp
  | x :: B, C, h => by
    have hx : x ∉ B ++ n :: C := (List.nodup_cons.mp h).1
    have hr := (List.nodup_cons.mp h).2
    have hxn : x ≠ n := fun e => hx (by simp [e])
    have ih := pas_first (n := n) (O := O) hr
    simp only [List.cons_append, pas, List.length_cons, List.take_succ_cons, List.map_cons, List.drop_succ_cons]
    rw [ih]
    congr 1
    have hn : n ∉ B ++ C := by
      have := (List.nodup_append.mp hr)
      intro hm
      rcases List.mem_append.mp hm with hm | hm
      · exact this.2.2 n hm n (by simp) rfl
      · exact (List.nodup_cons.mp this.2.1).1 hm
    have hnb : n ∉ B := fun e => hn (by simp [e])
    have hnc : n ∉ C := fun e => hn (by simp [e])
    have c : ∀ l : List α, n ∉ l → l.countP (fun y => decide ((n :: O).idxOf y < (n :: O).idxOf x)) = l.countP (fun y => decide (O.idxOf y < O.idxOf x)) := fun l hl =>
      List.countP_congr fun y hy => by
        have hy : y ≠ n := fun e => hl (by rw [← e]; exact hy)
        simp [idx_cons_ne hxn, idx_cons_ne hy]
    rw [List.countP_append, List.countP_cons, List.countP_append, c B hnb, c C hnc]
    have e1 : decide ((n :: O).idxOf n < (n :: O).idxOf x) = true := by simp [idx_cons_ne hxn]
    simp only [e1, if_true]
    omega
theorem pas_length {O : List α} : ∀ {N : List α}, (pas O N).length = N.length
  | [] => rfl
  | _ :: N => by simp [pas, pas_length (N := N)]
theorem sum_inc : ∀ (l : List Nat), (l.map (· + 1)).sum = l.sum + l.length
  | [] => rfl
  | x :: l => by simp [sum_inc l]; omega
theorem sum_split (l : List Nat) (k : Nat) : (l.take k).sum + (l.drop k).sum = l.sum := by
  rw [← List.sum_append, List.take_append_drop]
theorem rowTo_len : ∀ {O N : List α}, O.Nodup → O.Perm N → (rowTo O N).length = (pas O N).sum
  | [], N, _, p => by
    have : N = [] := List.nil_perm.mp p
    subst this
    rfl
  | n :: O, N, hO, p => by
    have hn : n ∈ N := p.mem_iff.mp (by simp)
    obtain ⟨B, C, h1, h2, h3, h4⟩ := idx_split N n hn
    have hN : N.Nodup := p.nodup_iff.mp hO
    have p' : O.Perm (N.erase n) := by
      have := p.erase n
      simpa using this
    rw [rowTo, List.length_append, List.length_replicate, rowTo_len (List.nodup_cons.mp hO).2 p', h3, h4]
    subst h1
    rw [pas_first hN]
    simp only [List.sum_append, List.sum_cons, sum_inc]
    have := sum_split (pas O (B ++ C)) B.length
    have hl : ((pas O (B ++ C)).take B.length).length = B.length := by rw [List.length_take, pas_length]; simp
    omega
/-- each lets as many pass as it would -/
def fits : List Nat → Ln α → Bool
  | m :: ms, p :: L => decide ((m : Int) ≤ p.2) && fits ms L
  | _, _ => true
theorem fits_split : ∀ {B C : Ln α} {ms ms' : List Nat}, ms.length = B.length → fits (ms ++ ms') (B ++ C) = (fits ms B && fits ms' C)
  | [], C, ms, ms', h => by
    have : ms = [] := List.length_eq_zero_iff.mp h
    subst this
    cases ms' <;> cases C <;> simp [fits]
  | p :: B, C, [], ms', h => by cases h
  | p :: B, C, m :: ms, ms', h => by
    simp only [List.cons_append, fits]
    rw [fits_split (by simpa using h), Bool.and_assoc]
theorem fits_inc : ∀ {B : Ln α} {ms : List Nat}, fits (ms.map (· + 1)) B = true → fits ms (B.map dec1) = true
  | [], ms, _ => by cases ms <;> rfl
  | p :: B, [], _ => rfl
  | p :: B, m :: ms, h => by
    simp only [List.map_cons, fits, Bool.and_eq_true, decide_eq_true_eq] at h ⊢
    refine ⟨?_, fits_inc h.2⟩
    simp only [dec1]
    omega
theorem fits_pos : ∀ {B : Ln α} {ms : List Nat}, ms.length = B.length → fits (ms.map (· + 1)) B = true → ∀ p ∈ B, p.2 ≠ 0
  | [], _, _, _, _, hp => by cases hp
  | p :: B, [], h, _, _, _ => by cases h
  | p :: B, m :: ms, hl, h, q, hq => by
    simp only [List.map_cons, fits, Bool.and_eq_true, decide_eq_true_eq] at h
    rcases List.mem_cons.mp hq with rfl | hq
    · omega
    · exact fits_pos (by simpa using hl) h.2 q hq
theorem map_split {β : Type} (f : β → α) : ∀ {L : List β} {B : List α} {n : α} {C : List α}, L.map f = B ++ n :: C → ∃ LB x LC, L = LB ++ x :: LC ∧ LB.map f = B ∧ f x = n ∧ LC.map f = C := fun {L B n C} h => by
  obtain ⟨l1, l2, h1, h2, h3⟩ := List.map_eq_append_iff.mp h
  obtain ⟨x, l3, h4, h5, h6⟩ := List.map_eq_cons_iff.mp h3
  exact ⟨l1, x, l3, by rw [h1, h4], h2, h5, h6⟩
/-- the row is never stuck, and comes to the order -/
theorem doRow_to : ∀ {O : List α} {A M : Ln α}, O.Nodup → O.Perm (M.map (·.1)) → (∀ p ∈ A, p.1 ∉ O) → fits (pas O (M.map (·.1))) M = true → ∃ M', doRow (rowTo O (M.map (·.1))) (A ++ M) = some (A ++ M') ∧ M'.map (·.1) = O
  | [], A, M, _, p, _, _ => by
    have : M = [] := List.map_eq_nil_iff.mp (List.nil_perm.mp p)
    subst this
    exact ⟨[], rfl, rfl⟩
  | n :: O, A, M, hO, p, hA, hf => by
    have hn : n ∈ M.map (·.1) := p.mem_iff.mp (by simp)
    have hN : (M.map (·.1)).Nodup := p.nodup_iff.mp hO
    obtain ⟨B, C, h1, h2, h3, h4⟩ := idx_split _ n hn
    obtain ⟨LB, x, LC, rfl, e2, e3, e4⟩ := map_split _ h1
    have p' : O.Perm ((LB ++ x :: LC).map (·.1) |>.erase n) := by
      have := p.erase n
      simpa using this
    rw [h4] at p'
    rw [h1] at hN hf
    have hlB : LB.length = B.length := by rw [← e2]; simp
    have htk : ((pas O (B ++ C)).take B.length).length = LB.length := by rw [List.length_take, pas_length, hlB]; simp
    rw [pas_first hN, fits_split (by simpa using htk)] at hf
    simp only [Bool.and_eq_true, fits] at hf
    obtain ⟨f1, f2, f3⟩ := hf
    have hpos := fits_pos htk f1
    have hr := doRow_rep n LB.length A LB x LC rfl (fun q hq => fun e => hA q hq (by simp [e])) (fun q hq => ⟨fun e => h2 (by rw [← e2, ← e]; exact List.mem_map_of_mem hq), hpos q hq⟩) e3
    have edec : (LB.map dec1).map (·.1) = B := by rw [← e2]; simp [dec1, List.map_map, Function.comp_def]
    have ih := doRow_to (O := O) (A := A ++ [x]) (M := LB.map dec1 ++ LC) (List.nodup_cons.mp hO).2 (by rw [List.map_append, edec, e4]; exact p') (fun q hq => by
      rcases List.mem_append.mp hq with hq | hq
      · exact fun e => hA q hq (by simp [e])
      · simp only [List.mem_singleton] at hq
        subst hq
        rw [e3]
        exact (List.nodup_cons.mp hO).1) (by
      rw [List.map_append, edec, e4]
      have := List.take_append_drop B.length (pas O (B ++ C))
      rw [← this, fits_split (by simpa using htk), fits_inc f1, f3]
      rfl)
    obtain ⟨M', i1, i2⟩ := ih
    refine ⟨x :: M', ?_, by simp [e3, i2]⟩
    rw [rowTo, doRow_append, h3, ← hlB, hr]
    simp only [Option.bind_some]
    rw [h4]
    rw [List.map_append, edec, e4] at i1
    have : A ++ x :: (LB.map dec1 ++ LC) = (A ++ [x]) ++ (LB.map dec1 ++ LC) := by simp
    rw [this, i1]
    simp
/-- what a passing leaves -/
theorem step1_names {n : α} : ∀ {L L' : Ln α}, step1 n L = some L' → (L'.map (fun p => p.1)).Perm (L.map (fun p => p.1))
  | [], _, h => by cases h
  | [_], _, h => by cases h
  | p :: q :: r, L', h => by
    rw [step1] at h
    split at h
    · cases h
    · split at h
      · split at h
        · cases h
        · cases h
          exact List.Perm.swap _ _ _
      · rw [Option.map_eq_some_iff] at h
        obtain ⟨M, h1, rfl⟩ := h
        exact (step1_names h1).cons _
theorem rowTo_bound : ∀ {O N : List α}, O.Perm N → 2 * (rowTo O N).length + O.length ≤ O.length * O.length
  | [], N, _ => by simp [rowTo]
  | n :: O, N, p => by
    have p' : O.Perm (N.erase n) := by
      have := p.erase n
      simpa using this
    have ih := rowTo_bound p'
    have hl := p.length_eq
    have hn : n ∈ N := p.mem_iff.mp (by simp)
    have hi := List.idxOf_lt_length_iff.mpr hn
    rw [rowTo, List.length_append, List.length_replicate]
    simp only [List.length_cons] at hl ⊢
    have : (O.length + 1) * (O.length + 1) = O.length * O.length + 2 * O.length + 1 := by
      rw [Nat.add_mul, Nat.mul_add]; omega
    omega
theorem rowTo_600 {O N : List α} (p : O.Perm N) (h : O.length ≤ 30) : (rowTo O N).length ≤ 450 := by
  have := rowTo_bound p
  have : O.length * O.length ≤ 30 * 30 := Nat.mul_le_mul h h
  omega
/-- those who would let too many pass -/
def overS : List Nat → Ln α → List α
  | m :: ms, p :: L => if p.2 < (m : Int) then p.1 :: overS ms L else overS ms L
  | _, _ => []
theorem fits_over : ∀ (ms : List Nat) (L : Ln α), fits ms L = (overS ms L).isEmpty
  | [], L => by simp [fits, overS]
  | m :: ms, [] => by simp [fits, overS]
  | m :: ms, p :: L => by
    simp only [fits, overS]
    by_cases h : p.2 < (m : Int)
    · rw [if_pos h, decide_eq_false (by omega)]; rfl
    · rw [if_neg h, decide_eq_true (by omega), fits_over ms L]; rfl
theorem cast_sum : ∀ l : List Nat, (l.map fun (k : Nat) => (k : Int)).sum = (l.sum : Nat)
  | [] => rfl
  | x :: l => by simp [cast_sum l]
theorem rowTo_mem : ∀ {O N : List α} {x : α}, x ∈ rowTo O N → x ∈ O
  | [], N, x, h => by cases h
  | n :: O, N, x, h => by
    rw [rowTo] at h
    rcases List.mem_append.mp h with h | h
    · rw [List.mem_replicate] at h
      rw [h.2]; simp
    · exact List.mem_cons_of_mem _ (rowTo_mem h)
end
end My

set_option linter.all false
namespace My
/-! # orders by who is passed, counted: in plain lists -/
def prodN : List Nat → Nat
  | [] => 1
  | c :: cs => (c + 1) * prodN cs
theorem prodN_pos : ∀ cs, 0 < prodN cs
  | [] => Nat.one_pos
  | c :: cs => Nat.mul_pos (Nat.succ_pos c) (prodN_pos cs)
/-- all ways to say by how many each is passed -/
def codes : List Nat → List (List Nat)
  | [] => [[]]
  | c :: cs => (List.range (c + 1)).flatMap fun k => (codes cs).map (k :: ·)
theorem sum_rep {α : Type} (n : Nat) (l : List α) : (l.map fun _ => n).sum = l.length * n := by
  induction l with
  | nil => simp
  | cons a l ih => simp [ih, Nat.succ_mul, Nat.add_comm]
theorem codes_len : ∀ cs, (codes cs).length = prodN cs
  | [] => rfl
  | c :: cs => by
    rw [codes, List.length_flatMap, prodN, ← codes_len cs]
    simp [sum_rep]
theorem mem_codes : ∀ {cs ks : List Nat}, ks ∈ codes cs ↔ ks.length = cs.length ∧ ∀ (i : Nat) k c, ks[i]? = some k → cs[i]? = some c → k ≤ c
  | [], ks => by
    simp only [codes, List.mem_singleton, List.length_nil]
    constructor
    · rintro rfl; simp
    · rintro ⟨h, _⟩; exact List.length_eq_zero_iff.mp h
  | c :: cs, ks => by
    simp only [codes, List.mem_flatMap, List.mem_range, List.mem_map]
    constructor
    · rintro ⟨k, hk, r, hr, rfl⟩
      obtain ⟨h1, h2⟩ := mem_codes.mp hr
      refine ⟨by simp [h1], fun i k' c' e1 e2 => ?_⟩
      cases i with
      | zero => simp at e1 e2; omega
      | succ i => exact h2 i k' c' (by simpa using e1) (by simpa using e2)
    · rintro ⟨h1, h2⟩
      cases ks with
      | nil => simp at h1
      | cons k r =>
        refine ⟨k, ?_, r, mem_codes.mpr ⟨by simpa using h1, fun i k' c' e1 e2 => h2 (i + 1) k' c' (by simpa using e1) (by simpa using e2)⟩, rfl⟩
        have := h2 0 k c rfl rfl
        omega
/-- the place (from 0 on) of one, by how many each is passed -/
def posC : Nat → List Nat → Nat
  | _, [] => 0
  | 0, k :: _ => k
  | i + 1, k :: ks => if k ≤ posC i ks then posC i ks + 1 else posC i ks
/-- the places of all -/
def placesC : List Nat → List Nat
  | [] => []
  | k :: ks => k :: (placesC ks).map fun p => if k ≤ p then p + 1 else p
theorem placesC_len : ∀ ks, (placesC ks).length = ks.length
  | [] => rfl
  | k :: ks => by simp [placesC, placesC_len ks]
theorem placesC_get : ∀ {ks : List Nat} {i : Nat}, i < ks.length → (placesC ks)[i]? = some (posC i ks)
  | k :: ks, 0, _ => rfl
  | k :: ks, i + 1, h => by
    simp only [placesC, List.getElem?_cons_succ, List.getElem?_map]
    rw [placesC_get (by simpa using h)]
    rfl
/-- each is passed by no more than stand behind them -/
def CodeOk : List Nat → Prop
  | [] => True
  | k :: ks => k ≤ ks.length ∧ CodeOk ks
theorem CodeOk.of {ks : List Nat} (h : ∀ (i : Nat) k, ks[i]? = some k → k + i + 1 ≤ ks.length) : CodeOk ks := by
  induction ks with
  | nil => trivial
  | cons k ks ih =>
    refine ⟨?_, ih fun i k' e => ?_⟩
    · have := h 0 k rfl
      simp at this; omega
    · have := h (i + 1) k' (by simpa using e)
      simp at this; omega
theorem nodup_ins {l : List Nat} (h : l.Nodup) (k : Nat) : (k :: l.map fun p => if k ≤ p then p + 1 else p).Nodup := by
  refine List.nodup_cons.mpr ⟨fun hm => ?_, ?_⟩
  · obtain ⟨p, _, e⟩ := List.mem_map.mp hm
    split at e <;> omega
  · unfold List.Nodup at h ⊢
    refine List.pairwise_map.mpr (h.imp fun {a b} hab e => hab ?_)
    split at e <;> split at e <;> omega
theorem places_ok : ∀ {ks : List Nat}, CodeOk ks → (placesC ks).Nodup ∧ ∀ p ∈ placesC ks, p < ks.length
  | [], _ => ⟨List.nodup_nil, fun p hp => by simp [placesC] at hp⟩
  | k :: ks, h => by
    obtain ⟨h1, h2⟩ := places_ok h.2
    refine ⟨nodup_ins h1 k, fun p hp => ?_⟩
    simp only [placesC, List.mem_cons, List.mem_map] at hp
    rcases hp with rfl | ⟨q, hq, rfl⟩
    · have := h.1; simp; omega
    · have := h2 q hq
      simp only [List.length_cons]
      split <;> omega
theorem nodup_len {α : Type} [DecidableEq α] : ∀ {l D : List α}, l.Nodup → (∀ x ∈ l, x ∈ D) → l.length ≤ D.length
  | [], _, _, _ => Nat.zero_le _
  | x :: l, D, h, hs => by
    have hx := hs x List.mem_cons_self
    have hn := List.nodup_cons.mp h
    have := nodup_len (D := D.erase x) hn.2 fun y hy => (List.mem_erase_of_ne (fun e => hn.1 (by rw [← e]; exact hy))).mpr (hs y (List.mem_cons_of_mem _ hy))
    rw [List.length_erase_of_mem hx] at this
    have := List.length_pos_of_mem hx
    simp only [List.length_cons]; omega
theorem perm_range_of {l : List Nat} {n : Nat} (h1 : l.Nodup) (h2 : ∀ p ∈ l, p < n) (h3 : l.length = n) : l.Perm (List.range n) := by
  refine (List.perm_ext_iff_of_nodup h1 List.nodup_range).mpr fun k => ⟨fun h => List.mem_range.mpr (h2 k h), fun h => ?_⟩
  by_cases hk : k ∈ l
  · exact hk
  · have := nodup_len (l := k :: l) (D := List.range n) (List.nodup_cons.mpr ⟨hk, h1⟩) fun x hx => by
      rcases List.mem_cons.mp hx with e | e
      · rw [e]; exact h
      · exact List.mem_range.mpr (h2 x e)
    simp at this; omega
theorem places_perm {ks : List Nat} (h : CodeOk ks) : (placesC ks).Perm (List.range ks.length) :=
  perm_range_of (places_ok h).1 (places_ok h).2 (placesC_len ks)
/-! ### counting by the first of them -/
theorem countP_flatMap {α β : Type} (p : β → Bool) (f : α → List β) (l : List α) : (l.flatMap f).countP p = (l.map fun a => (f a).countP p).sum := by
  induction l with
  | nil => rfl
  | cons a l ih => simp [ih]
theorem countP_codes (p : List Nat → Bool) (c : Nat) (cs : List Nat) : (codes (c :: cs)).countP p = ((List.range (c + 1)).map fun k => (codes cs).countP fun ks => p (k :: ks)).sum := by
  rw [codes, countP_flatMap]
  congr 1
  refine List.map_congr_left fun k _ => ?_
  rw [List.countP_map]
  rfl
/-- in how many ways one has the place p -/
def cntAt (cs : List Nat) (at_ p : Nat) : Nat := (codes cs).countP fun ks => decide (posC at_ ks = p)
theorem sum_map_add {α : Type} (f g : α → Nat) (l : List α) : (l.map fun a => f a + g a).sum = (l.map f).sum + (l.map g).sum := by
  induction l with
  | nil => rfl
  | cons a l ih => simp [ih]; omega
theorem sum_if_const {α : Type} (q : α → Bool) (n : Nat) (l : List α) : (l.map fun a => if q a = true then n else 0).sum = l.countP q * n := by
  induction l with
  | nil => simp
  | cons a l ih =>
    simp only [List.map_cons, List.sum_cons, ih, List.countP_cons]
    by_cases h : q a = true
    · simp [h, Nat.add_mul]; omega
    · simp [h]
theorem countP_lt (n m : Nat) : (List.range n).countP (fun k => decide (k < m)) = min n m := by
  induction n with
  | zero => simp
  | succ n ih =>
    rw [List.range_succ, List.countP_append, ih]
    by_cases h : n < m
    · simp [h]; omega
    · simp [h]; omega
theorem countP_ge (n m : Nat) : (List.range n).countP (fun k => decide (m ≤ k)) = n - m := by
  induction n with
  | zero => simp
  | succ n ih =>
    rw [List.range_succ, List.countP_append, ih]
    by_cases h : m ≤ n
    · simp [h]; omega
    · simp [h]; omega
theorem countP_eq' (n m : Nat) : (List.range n).countP (fun k => decide (k = m)) = if m < n then 1 else 0 := by
  induction n with
  | zero => simp
  | succ n ih =>
    rw [List.range_succ, List.countP_append, ih]
    by_cases h : n = m
    · subst h; simp
    · have h' : ¬ n = m := h
      simp only [List.countP_cons, List.countP_nil, h', decide_false]
      by_cases h2 : m < n
      · simp [h2, Nat.lt_succ_of_lt h2]
      · have : ¬ m < n + 1 := by omega
        simp [h2, this]
theorem cntAt_zero (c : Nat) (cs : List Nat) (p : Nat) : cntAt (c :: cs) 0 p = if p ≤ c then prodN cs else 0 := by
  unfold cntAt
  rw [countP_codes]
  have e : (fun k => (codes cs).countP fun ks => decide (posC 0 (k :: ks) = p)) = fun k => if decide (k = p) = true then prodN cs else 0 := by
    funext k
    by_cases h : k = p
    · subst h
      rw [← codes_len]
      simp [posC]
    · simp [posC, h]
  rw [e, sum_if_const (fun k => decide (k = p)), countP_eq']
  by_cases h : p ≤ c
  · rw [if_pos h, if_pos (by omega)]; simp
  · rw [if_neg h, if_neg (by omega)]; simp
theorem cntAt_succ (c : Nat) (cs : List Nat) (at_ p : Nat) : cntAt (c :: cs) (at_ + 1) p = (if p = 0 then 0 else cntAt cs at_ (p - 1) * min p (c + 1)) + cntAt cs at_ p * (c + 1 - min (p + 1) (c + 1)) := by
  unfold cntAt
  rw [countP_codes]
  have e : (fun k => (codes cs).countP fun ks => decide (posC (at_ + 1) (k :: ks) = p)) =
      fun k => (if decide (k < p) = true then (if p = 0 then 0 else (codes cs).countP fun ks => decide (posC at_ ks = p - 1)) else 0) + (if decide (p + 1 ≤ k) = true then (codes cs).countP fun ks => decide (posC at_ ks = p) else 0) := by
    funext k
    simp only [decide_eq_true_eq]
    by_cases h1 : k < p
    · rw [if_pos h1, if_neg (by omega), if_neg (by omega), Nat.add_zero]
      refine List.countP_congr fun ks _ => ?_
      by_cases hk : k ≤ posC at_ ks <;> simp [posC, hk] <;> omega
    · rw [if_neg h1]
      by_cases h2 : p + 1 ≤ k
      · rw [if_pos h2, Nat.zero_add]
        refine List.countP_congr fun ks _ => ?_
        by_cases hk : k ≤ posC at_ ks <;> simp [posC, hk] <;> omega
      · rw [if_neg h2, Nat.zero_add]
        rw [List.countP_eq_zero]
        intro ks _
        by_cases hk : k ≤ posC at_ ks <;> simp [posC, hk] <;> omega
  rw [e, sum_map_add, sum_if_const (fun k => decide (k < p)), sum_if_const (fun k => decide (p + 1 ≤ k)), countP_lt, countP_ge]
  have e1 : min (c + 1) p = min p (c + 1) := Nat.min_comm _ _
  have e2 : c + 1 - (p + 1) = c + 1 - min (p + 1) (c + 1) := by omega
  rw [e1, e2]
  by_cases hp : p = 0
  · subst hp; simp [Nat.mul_comm]
  · rw [if_neg hp, if_neg hp, Nat.mul_comm, Nat.mul_comm (c + 1 - min (p + 1) (c + 1))]
end My

set_option linter.all false
namespace My
/-! ### sums over places, over folk -/
theorem sum_swap {α β : Type} (f : α → β → Nat) (xs : List α) (ys : List β) : (xs.map fun x => (ys.map fun y => f x y).sum).sum = (ys.map fun y => (xs.map fun x => f x y).sum).sum := by
  induction xs with
  | nil => simp [sum_rep]
  | cons x xs ih => simp only [List.map_cons, List.sum_cons, ih, ← sum_map_add]
theorem countP_sum {α : Type} (p : α → Bool) (l : List α) : l.countP p = (l.map fun a => if p a = true then 1 else 0).sum := by
  rw [sum_if_const]; simp
theorem sum_map_mul {α : Type} (f : α → Nat) (n : Nat) (l : List α) : (l.map fun a => f a * n).sum = (l.map f).sum * n := by
  induction l with
  | nil => simp
  | cons a l ih => simp [ih, Nat.add_mul]
/-- the sum of h over the values, counted value by value -/
theorem sum_by_value {α : Type} (g : α → Nat) (h : Nat → Nat) (n : Nat) (l : List α) (hl : ∀ a ∈ l, g a < n) : ((List.range n).map fun p => l.countP (fun a => decide (g a = p)) * h p).sum = (l.map fun a => h (g a)).sum := by
  have e : (fun p => l.countP (fun a => decide (g a = p)) * h p) = fun p => (l.map fun a => (if g a = p then 1 else 0) * h p).sum := by
    funext p
    rw [sum_map_mul, countP_sum]
    simp only [decide_eq_true_eq]
  rw [e, sum_swap]
  congr 1
  refine List.map_congr_left fun a ha => ?_
  have e2 : (fun p => (if g a = p then 1 else 0) * h p) = fun p => if decide (p = g a) = true then h (g a) else 0 := by
    funext p
    by_cases q : g a = p
    · subst q; simp
    · rw [if_neg q, if_neg (by simpa using fun z => q z.symm)]; simp
  rw [e2, sum_if_const (fun p => decide (p = g a)), countP_eq', if_pos (hl a ha), Nat.one_mul]
theorem posC_lt {cs ks : List Nat} (hc : CodeOk ks) {i : Nat} (h : i < ks.length) : posC i ks < ks.length := (places_ok hc).2 _ (List.mem_of_getElem? (placesC_get h))
/-- caps: nobody can be passed by more than stand behind them -/
theorem code_ok {cs ks : List Nat} (hc : CodeOk cs) (h : ks ∈ codes cs) : CodeOk ks := by
  induction cs generalizing ks with
  | nil => simp [codes] at h; subst h; trivial
  | cons c cs ih =>
    simp only [codes, List.mem_flatMap, List.mem_range, List.mem_map] at h
    obtain ⟨k, hk, r, hr, rfl⟩ := h
    refine ⟨?_, ih hc.2 hr⟩
    have := (mem_codes.mp hr).1
    have := hc.1
    omega
theorem code_len {cs ks : List Nat} (h : ks ∈ codes cs) : ks.length = cs.length := (mem_codes.mp h).1
theorem sum_cnt {cs : List Nat} (hc : CodeOk cs) {i : Nat} (hi : i < cs.length) (h : Nat → Nat) : ((List.range cs.length).map fun p => cntAt cs i p * h p).sum = ((codes cs).map fun ks => h (posC i ks)).sum :=
  sum_by_value (posC i) h cs.length (codes cs) fun ks hk => by
    have hl := code_len hk
    rw [← hl]
    exact posC_lt (cs := cs) (code_ok hc hk) (by omega)
theorem sum_at {cs : List Nat} (hc : CodeOk cs) {i : Nat} (hi : i < cs.length) : ((List.range cs.length).map fun p => cntAt cs i p).sum = prodN cs := by
  have := sum_cnt hc hi fun _ => 1
  simpa [sum_rep, codes_len] using this
theorem map_places {ks : List Nat} (f : Nat → Nat) : (List.range ks.length).map (fun i => f (posC i ks)) = (placesC ks).map f := by
  apply List.ext_getElem?
  intro i
  rw [List.getElem?_map, List.getElem?_map]
  by_cases h : i < ks.length
  · rw [List.getElem?_range h, placesC_get h]; rfl
  · rw [List.getElem?_eq_none (by simp; omega), List.getElem?_eq_none (by rw [placesC_len]; omega)]; rfl
theorem sum_perm {l l' : List Nat} (h : l.Perm l') : l.sum = l'.sum := h.sum_nat
/-- at each place one of them stands -/
theorem sum_folk {cs : List Nat} (hc : CodeOk cs) {p : Nat} (hp : p < cs.length) : ((List.range cs.length).map fun i => cntAt cs i p).sum = prodN cs := by
  have e : (fun i => cntAt cs i p) = fun i => ((codes cs).map fun ks => if posC i ks = p then 1 else 0).sum := by
    funext i
    unfold cntAt
    rw [countP_sum]
    simp only [decide_eq_true_eq]
  rw [e, sum_swap, ← codes_len]
  have e2 : ((codes cs).map fun ks => ((List.range cs.length).map fun i => if posC i ks = p then 1 else 0).sum) = (codes cs).map fun _ => 1 := by
    refine List.map_congr_left fun ks hk => ?_
    have hl := code_len hk
    rw [← hl, map_places (fun q => if q = p then 1 else 0)]
    rw [sum_perm ((places_perm (code_ok hc hk)).map _)]
    have := countP_eq' ks.length p
    rw [countP_sum] at this
    simp only [decide_eq_true_eq] at this
    rw [this, if_pos (by omega)]
  rw [e2, sum_rep, Nat.mul_one]
/-- in how many ways i is ahead of j -/
def cntAhead (cs : List Nat) (i j : Nat) : Nat := (codes cs).countP fun ks => decide (posC i ks < posC j ks)
theorem sum_ahead {cs : List Nat} (hc : CodeOk cs) {j : Nat} (hj : j < cs.length) : ((List.range cs.length).map fun i => cntAhead cs i j).sum = ((codes cs).map fun ks => posC j ks).sum := by
  have e : (fun i => cntAhead cs i j) = fun i => ((codes cs).map fun ks => if posC i ks < posC j ks then 1 else 0).sum := by
    funext i
    unfold cntAhead
    rw [countP_sum]
    simp only [decide_eq_true_eq]
  rw [e, sum_swap]
  congr 1
  refine List.map_congr_left fun ks hk => ?_
  have hl := code_len hk
  have hlt := posC_lt (cs := cs) (code_ok hc hk) (i := j) (by omega)
  rw [← hl, map_places (fun q => if q < posC j ks then 1 else 0), sum_perm ((places_perm (code_ok hc hk)).map _)]
  have := countP_lt ks.length (posC j ks)
  rw [countP_sum] at this
  simp only [decide_eq_true_eq] at this
  rw [this]
  omega
theorem ahead_self (cs : List Nat) (i : Nat) : cntAhead cs i i = 0 := by simp [cntAhead]
theorem posC_inj {ks : List Nat} (hc : CodeOk ks) {i j : Nat} (hi : i < ks.length) (hj : j < ks.length) (h : posC i ks = posC j ks) : i = j := by
  have n := (places_ok hc).1
  have e1 := placesC_get hi
  have e2 := placesC_get hj
  rw [h, ← e2] at e1
  exact (List.getElem?_inj (by rw [placesC_len]; exact hi) n).mp e1
theorem ahead_both {cs : List Nat} (hc : CodeOk cs) {i j : Nat} (hi : i < cs.length) (hj : j < cs.length) (hij : i ≠ j) : cntAhead cs i j + cntAhead cs j i = prodN cs := by
  unfold cntAhead
  rw [← codes_len, countP_sum, countP_sum, ← sum_map_add]
  have : ((codes cs).map fun a => (if decide (posC i a < posC j a) = true then 1 else 0) + (if decide (posC j a < posC i a) = true then 1 else 0)) = (codes cs).map fun _ => 1 := by
    refine List.map_congr_left fun ks hk => ?_
    have hl := code_len hk
    have hne : posC i ks ≠ posC j ks := fun e => hij (posC_inj (code_ok hc hk) (by omega) (by omega) e)
    simp only [decide_eq_true_eq]
    by_cases h : posC i ks < posC j ks
    · rw [if_pos h, if_neg (by omega)]
    · rw [if_neg h, if_pos (by omega)]
  rw [this, sum_rep, Nat.mul_one]
theorem ahead_succ (c : Nat) (cs : List Nat) (i j : Nat) : cntAhead (c :: cs) (i + 1) (j + 1) = (c + 1) * cntAhead cs i j := by
  unfold cntAhead
  rw [countP_codes]
  have : (fun k => (codes cs).countP fun ks => decide (posC (i + 1) (k :: ks) < posC (j + 1) (k :: ks))) = fun _ => (codes cs).countP fun ks => decide (posC i ks < posC j ks) := by
    funext k
    refine List.countP_congr fun ks _ => ?_
    by_cases h1 : k ≤ posC i ks <;> by_cases h2 : k ≤ posC j ks <;> simp [posC, h1, h2] <;> omega
  rw [this, sum_rep]; simp
theorem ahead_drop : ∀ (A cs : List Nat) (i j : Nat), cntAhead (A ++ cs) (A.length + i) (A.length + j) = prodN A * cntAhead cs i j
  | [], cs, i, j => by simp [prodN]
  | a :: A, cs, i, j => by
    have : (a :: A).length + i = (A.length + i) + 1 := by simp; omega
    rw [this, show (a :: A).length + j = (A.length + j) + 1 by simp; omega, List.cons_append, ahead_succ, ahead_drop A cs i j, prodN, Nat.mul_assoc]
/-- how many pass the first of them by -/
theorem ahead_first {c : Nat} {cs : List Nat} (hc : CodeOk cs) {j : Nat} (hj : j < cs.length) : cntAhead (c :: cs) (j + 1) 0 = ((List.range cs.length).map fun p => cntAt cs j p * (c - p)).sum := by
  unfold cntAhead
  rw [countP_codes, sum_cnt hc hj fun p => c - p]
  have : (fun k => (codes cs).countP fun ks => decide (posC (j + 1) (k :: ks) < posC 0 (k :: ks))) = fun k => ((codes cs).map fun ks => if posC j ks < k then 1 else 0).sum := by
    funext k
    rw [countP_sum]
    congr 1
    refine List.map_congr_left fun ks _ => ?_
    by_cases h1 : k ≤ posC j ks
    · rw [if_neg (show ¬ posC j ks < k by omega), if_neg (by simp [posC, h1]; omega)]
    · rw [if_pos (show posC j ks < k by omega), if_pos (by simp [posC, h1]; omega)]
  rw [this, sum_swap]
  congr 1
  refine List.map_congr_left fun ks _ => ?_
  have := countP_ge (c + 1) (posC j ks + 1)
  rw [countP_sum] at this
  simp only [decide_eq_true_eq] at this
  have e : (fun k => if posC j ks < k then 1 else 0) = fun k => if posC j ks + 1 ≤ k then 1 else 0 := rfl
  rw [e, this]
  omega
/-! ### the table of ways, as it is filled -/
abbrev Tb := List (Nat × Nat)
def val : Tb → Nat → Nat
  | [], _ => 0
  | (s, m) :: D, p => if s = p then m else val D p
def hasK : Tb → Nat → Bool
  | [], _ => false
  | (s, _) :: D, p => decide (s = p) || hasK D p
def putT : Tb → Nat → Nat → Tb
  | [], k, v => [(k, v)]
  | (s, m) :: D, k, v => if s = k then (s, v) :: D else (s, m) :: putT D k v
def addT (D : Tb) (k v : Nat) : Tb := putT D k (val D k + v)
theorem val_put : ∀ (D : Tb) (k v p : Nat), val (putT D k v) p = if k = p then v else val D p
  | [], k, v, p => by simp [putT, val]
  | (s, m) :: D, k, v, p => by
    unfold putT
    by_cases h : s = k
    · subst h
      rw [if_pos rfl]
      by_cases h2 : s = p <;> simp [val, h2]
    · rw [if_neg h]
      simp only [val, val_put D k v p]
      by_cases h2 : s = p
      · subst h2
        rw [if_pos rfl, if_neg (fun e => h e.symm), if_pos rfl]
      · rw [if_neg h2, if_neg h2]
theorem val_add (D : Tb) (k v p : Nat) : val (addT D k v) p = val D p + if k = p then v else 0 := by
  unfold addT
  rw [val_put]
  by_cases h : k = p
  · subst h; simp
  · simp [h]
def keysT (D : Tb) : List Nat := D.map (·.1)
theorem keysT_cons (a : Nat × Nat) (D : Tb) : keysT (a :: D) = a.1 :: keysT D := rfl
theorem keys_put : ∀ (D : Tb) (k v : Nat), keysT (putT D k v) = if k ∈ keysT D then keysT D else keysT D ++ [k]
  | [], k, v => by simp [putT, keysT]
  | (s, m) :: D, k, v => by
    have ih := keys_put D k v
    unfold putT
    by_cases h : s = k
    · subst h; rw [if_pos rfl, keysT_cons, keysT_cons, if_pos List.mem_cons_self]
    · rw [if_neg h, keysT_cons, keysT_cons, ih]
      by_cases h2 : k ∈ keysT D
      · rw [if_pos h2, if_pos (List.mem_cons_of_mem _ h2)]
      · rw [if_neg h2, if_neg (by simp only [List.mem_cons, not_or]; exact ⟨fun e => h e.symm, h2⟩)]; rfl
theorem nodup_put {D : Tb} (h : (keysT D).Nodup) (k v : Nat) : (keysT (putT D k v)).Nodup := by
  rw [keys_put]
  split
  · exact h
  · rename_i hn
    exact List.nodup_append.mpr ⟨h, List.nodup_cons.mpr ⟨by simp, List.nodup_nil⟩, fun a ha b hb e => hn (by
      simp only [List.mem_singleton] at hb
      rw [← hb, ← e]; exact ha)⟩
theorem put_len (D : Tb) (k v : Nat) : (putT D k v).length ≤ D.length + 1 := by
  have h1 : ∀ D : Tb, (keysT D).length = D.length := fun D => List.length_map _
  rw [← h1, ← h1, keys_put]
  split <;> simp
/-- what is summed over a table's entries -/
theorem val_none {D : Tb} {p : Nat} (h : p ∉ keysT D) : val D p = 0 := by
  induction D with
  | nil => rfl
  | cons a D ih =>
    obtain ⟨s, m⟩ := a
    simp only [keysT, List.map_cons, List.mem_cons, not_or] at h
    simp only [val]
    rw [if_neg (fun e => h.1 e.symm)]
    exact ih h.2
theorem sum_table {D : Tb} (hn : (keysT D).Nodup) {n : Nat} (hk : ∀ s ∈ keysT D, s < n) (h : Nat → Nat) : (D.map fun a => a.2 * h a.1).sum = ((List.range n).map fun p => val D p * h p).sum := by
  induction D with
  | nil => simp [val, sum_rep]
  | cons a D ih =>
    obtain ⟨s, m⟩ := a
    simp only [keysT, List.map_cons] at hn hk
    have hn' := List.nodup_cons.mp hn
    rw [List.map_cons, List.sum_cons, ih hn'.2 fun x hx => hk x (List.mem_cons_of_mem _ hx)]
    have e : (fun p => val ((s, m) :: D) p * h p) = fun p => (if decide (p = s) = true then m * h s else 0) + val D p * h p := by
      funext p
      simp only [val]
      by_cases q : s = p
      · subst q
        rw [if_pos rfl, val_none hn'.1]; simp
      · rw [if_neg q, if_neg (by simpa using fun z => q z.symm)]; simp
    rw [e, sum_map_add, sum_if_const (fun p => decide (p = s)), countP_eq', if_pos (hk s List.mem_cons_self)]
    simp
theorem sum_one {D : Tb} (hn : (keysT D).Nodup) (p : Nat) (g : Nat → Nat) (g0 : g 0 = 0) : (D.map fun a => if a.1 = p then g a.2 else 0).sum = g (val D p) := by
  induction D with
  | nil => simp [val, g0]
  | cons a D ih =>
    obtain ⟨s, m⟩ := a
    simp only [keysT, List.map_cons] at hn
    have hn' := List.nodup_cons.mp hn
    rw [List.map_cons, List.sum_cons, ih hn'.2]
    simp only [val]
    by_cases q : s = p
    · subst q
      rw [if_pos rfl, if_pos rfl, val_none hn'.1, g0]; simp
    · rw [if_neg q, if_neg q]; simp
/-- one is put in ahead of, or behind, the one that is looked at -/
def putIn (cap : Nat) (M : Tb) (a : Nat × Nat) : Tb := addT (addT M (a.1 + 1) (a.2 * min a.1 (cap + 1))) a.1 (a.2 * (cap + 1 - min a.1 (cap + 1)))
def stepT (cap : Nat) (D : Tb) : Tb := D.foldl (putIn cap) []
theorem val_fold (cap p : Nat) : ∀ (D M : Tb), val (D.foldl (putIn cap) M) p = val M p + (D.map fun a => (if a.1 + 1 = p then a.2 * min a.1 (cap + 1) else 0) + if a.1 = p then a.2 * (cap + 1 - min a.1 (cap + 1)) else 0).sum
  | [], M => by simp
  | a :: D, M => by
    rw [List.foldl_cons, val_fold cap p D]
    unfold putIn
    rw [val_add, val_add, List.map_cons, List.sum_cons]
    omega
theorem nodup_fold (cap : Nat) : ∀ (D M : Tb), (keysT M).Nodup → (keysT (D.foldl (putIn cap) M)).Nodup
  | [], M, h => h
  | a :: D, M, h => nodup_fold cap D _ (nodup_put (nodup_put h _ _) _ _)
/-- the table tells f -/
structure Tells (D : Tb) (n : Nat) (f : Nat → Nat) : Prop where
  nd : (keysT D).Nodup
  key : ∀ s ∈ keysT D, 1 ≤ s ∧ s ≤ n
  val : ∀ p, val D p = f p
theorem keys_fold (cap n : Nat) : ∀ (D M : Tb), (∀ s ∈ keysT D, 1 ≤ s ∧ s ≤ n) → (∀ s ∈ keysT M, 1 ≤ s ∧ s ≤ n + 1) → ∀ s ∈ keysT (D.foldl (putIn cap) M), 1 ≤ s ∧ s ≤ n + 1
  | [], M, _, h => h
  | a :: D, M, hD, h => by
    refine keys_fold cap n D _ (fun s hs => hD s (List.mem_cons_of_mem _ hs)) fun s hs => ?_
    have ha := hD a.1 List.mem_cons_self
    have aux : ∀ {M : Tb} {k v s : Nat}, s ∈ keysT (putT M k v) → s ∈ keysT M ∨ s = k := fun {M k v s} hs => by
      rw [keys_put] at hs
      split at hs
      · exact .inl hs
      · rcases List.mem_append.mp hs with q | q
        · exact .inl q
        · exact .inr (by simpa using q)
    rcases aux hs with q | q
    · rcases aux q with q | q
      · exact h s q
      · omega
    · omega
theorem Tells.step {D : Tb} {n : Nat} {f : Nat → Nat} (t : Tells D n f) (cap : Nat) : Tells (stepT cap D) (n + 1) fun p => (if p = 0 then 0 else f (p - 1) * min (p - 1) (cap + 1)) + f p * (cap + 1 - min p (cap + 1)) where
  nd := nodup_fold cap D [] List.nodup_nil
  key := keys_fold cap n D [] t.key fun s hs => by simp [keysT] at hs
  val := fun p => by
    unfold stepT
    rw [val_fold, sum_map_add]
    have e1 : (D.map fun a => if a.1 + 1 = p then a.2 * min a.1 (cap + 1) else 0).sum = if p = 0 then 0 else f (p - 1) * min (p - 1) (cap + 1) := by
      by_cases h : p = 0
      · subst h
        rw [if_pos rfl]
        have : (fun a : Nat × Nat => if a.1 + 1 = 0 then a.2 * min a.1 (cap + 1) else 0) = fun _ => 0 := by funext a; simp
        rw [this, sum_rep]; simp
      · rw [if_neg h]
        have : (fun a : Nat × Nat => if a.1 + 1 = p then a.2 * min a.1 (cap + 1) else 0) = fun a => if a.1 = p - 1 then a.2 * min (p - 1) (cap + 1) else 0 := by
          funext a
          by_cases q : a.1 = p - 1
          · rw [if_pos (by omega), if_pos q, q]
          · rw [if_neg (by omega), if_neg q]
        rw [this, sum_one t.nd (p - 1) (fun m => m * min (p - 1) (cap + 1)) (by simp), t.val]
    have e2 : (D.map fun a => if a.1 = p then a.2 * (cap + 1 - min a.1 (cap + 1)) else 0).sum = f p * (cap + 1 - min p (cap + 1)) := by
      have : (fun a : Nat × Nat => if a.1 = p then a.2 * (cap + 1 - min a.1 (cap + 1)) else 0) = fun a => if a.1 = p then a.2 * (cap + 1 - min p (cap + 1)) else 0 := by
        funext a
        by_cases q : a.1 = p
        · rw [if_pos q, if_pos q, q]
        · rw [if_neg q, if_neg q]
      rw [this, sum_one t.nd p (fun m => m * (cap + 1 - min p (cap + 1))) (by simp), t.val]
    rw [e1, e2]
    simp [My.val]
/-- .. by places from 1 on -/
def cnt1 (cs : List Nat) (i p : Nat) : Nat := if p = 0 then 0 else cntAt cs i (p - 1)
theorem cnt1_step (c : Nat) (cs : List Nat) (i : Nat) (p : Nat) : (if p = 0 then 0 else cnt1 cs i (p - 1) * min (p - 1) (c + 1)) + cnt1 cs i p * (c + 1 - min p (c + 1)) = cnt1 (c :: cs) (i + 1) p := by
  unfold cnt1
  by_cases h : p = 0
  · subst h; simp
  · rw [if_neg h, if_neg h, if_neg h, cntAt_succ]
    by_cases h2 : p = 1
    · subst h2; simp
    · rw [if_neg (by omega), if_neg (by omega), show p - 1 - 1 = p - 2 by omega, show p - 1 + 1 = p by omega]
/-- the first table -/
def tab0 (c : Nat) (cs : List Nat) : Tb := (List.range (c + 1)).map fun k => (k + 1, prodN cs)
theorem val_map (v : Nat) : ∀ (l : List Nat) (p : Nat), val (l.map fun k => (k + 1, v)) p = if p ≠ 0 ∧ p - 1 ∈ l then v else 0
  | [], p => by simp [val]
  | k :: l, p => by
    simp only [List.map_cons, val, val_map v l p, List.mem_cons]
    by_cases h : k + 1 = p
    · subst h; simp
    · rw [if_neg h]
      have : (p ≠ 0 ∧ (p - 1 = k ∨ p - 1 ∈ l)) ↔ (p ≠ 0 ∧ p - 1 ∈ l) := by
        constructor
        · rintro ⟨h1, h2 | h2⟩
          · omega
          · exact ⟨h1, h2⟩
        · rintro ⟨h1, h2⟩; exact ⟨h1, .inr h2⟩
      simp only [this]
theorem tells0 (c : Nat) (cs : List Nat) : Tells (tab0 c cs) (c + 1) (cnt1 (c :: cs) 0) where
  nd := by
    unfold tab0 keysT
    rw [List.map_map]
    exact List.pairwise_map.mpr (List.nodup_range.imp fun {a b} h e => h (by simpa using e))
  key := fun s hs => by
    simp only [tab0, keysT, List.map_map, List.mem_map, List.mem_range, Function.comp] at hs
    obtain ⟨k, hk, rfl⟩ := hs
    omega
  val := fun p => by
    unfold tab0 cnt1
    rw [val_map, cntAt_zero]
    by_cases h : p = 0
    · simp [h]
    · by_cases h2 : p - 1 ≤ c
      · rw [if_pos ⟨h, List.mem_range.mpr (by omega)⟩, if_neg h, if_pos h2]
      · rw [if_neg (fun q => h2 (by have := List.mem_range.mp q.2; omega)), if_neg h, if_neg h2]
/-- the table for the one at i of cs -/
def waysT : List Nat → Nat → Tb
  | [], _ => []
  | c :: cs, 0 => tab0 c cs
  | c :: cs, i + 1 => stepT c (waysT cs i)
def topT : List Nat → Nat → Nat
  | [], _ => 0
  | c :: _, 0 => c + 1
  | _ :: cs, i + 1 => topT cs i + 1
theorem ways_tells : ∀ {cs : List Nat} {i : Nat}, i < cs.length → Tells (waysT cs i) (topT cs i) (cnt1 cs i)
  | c :: cs, 0, _ => tells0 c cs
  | c :: cs, i + 1, h => by
    have t := (ways_tells (cs := cs) (i := i) (by simpa using h)).step c
    exact ⟨t.nd, t.key, fun p => (t.val p).trans (cnt1_step c cs i p)⟩
theorem top_le : ∀ {cs : List Nat} {i : Nat}, CodeOk cs → i < cs.length → topT cs i ≤ cs.length
  | c :: cs, 0, h, _ => by have := h.1; simp [topT]; exact this
  | c :: cs, i + 1, h, hi => by
    have := top_le h.2 (i := i) (by simpa using hi)
    simp [topT]; exact this
/-- the ways by which the one behind comes ahead of the first -/
theorem ways_ahead {c : Nat} {cs : List Nat} (hc : CodeOk cs) {j : Nat} (hj : j < cs.length) : ((waysT cs j).map fun a => a.2 * (c + 1 - a.1)).sum = cntAhead (c :: cs) (j + 1) 0 := by
  have t := ways_tells hj
  have tl := top_le hc hj
  rw [sum_table t.nd (n := cs.length + 1) (fun s hs => by have := t.key s hs; omega) fun s => c + 1 - s, ahead_first hc hj]
  rw [List.range_succ_eq_map, List.map_cons, List.sum_cons, t.val, List.map_map]
  simp only [cnt1, if_true, Nat.zero_mul, Nat.zero_add]
  congr 1
  refine List.map_congr_left fun p _ => ?_
  simp only [Function.comp]
  rw [t.val]
  simp only [cnt1, Nat.succ_eq_add_one]
  rw [if_neg (by omega), show p + 1 - 1 = p by omega, show c + 1 - (p + 1) = c - p by omega]
end My

set_option linter.all false
namespace My
/-! ### the order by whom each is passed -/
section
variable {α : Type} [DecidableEq α]
def insAt (k : Nat) (x : α) (l : List α) : List α := l.take k ++ [x] ++ l.drop k
def ordC : List α → List Nat → List α
  | n :: N, k :: ks => insAt k n (ordC N ks)
  | _, _ => []
theorem insAt_perm (k : Nat) (x : α) (l : List α) : (insAt k x l).Perm (x :: l) := by
  unfold insAt
  have h : (l.take k ++ [x] ++ l.drop k).Perm (x :: (l.take k ++ l.drop k)) := by
    rw [List.append_assoc]
    exact List.perm_middle
  rwa [List.take_append_drop] at h
theorem ordC_perm : ∀ {N : List α} {ks : List Nat}, ks.length = N.length → (ordC N ks).Perm N
  | [], ks, h => by cases ks <;> simp [ordC]
  | n :: N, k :: ks, h => (insAt_perm k n _).trans ((ordC_perm (by simpa using h)).cons n)
theorem idx_ins {l : List α} {k : Nat} {x y : α} (hk : k ≤ l.length) (hx : x ∉ l) : (insAt k x l).idxOf x = k ∧ (y ∈ l → (insAt k x l).idxOf y = if k ≤ l.idxOf y then l.idxOf y + 1 else l.idxOf y) := by
  induction k generalizing l with
  | zero =>
    refine ⟨by simp [insAt, List.idxOf_cons], fun hy => ?_⟩
    have : ¬ x = y := fun e => hx (e ▸ hy)
    simp [insAt, List.idxOf_cons, this, beq_eq_false_iff_ne.mpr this]
  | succ k ih =>
    cases l with
    | nil => simp at hk
    | cons a l =>
      simp only [List.mem_cons, not_or] at hx
      obtain ⟨h1, h2⟩ := ih (l := l) (by simpa using hk) hx.2
      have e : insAt (k + 1) x (a :: l) = a :: insAt k x l := by simp [insAt]
      rw [e]
      refine ⟨by rw [List.idxOf_cons, h1, beq_eq_false_iff_ne.mpr (Ne.symm hx.1)]; rfl, fun hy => ?_⟩
      rw [List.idxOf_cons, List.idxOf_cons]
      by_cases q : a = y
      · subst q; simp
      · have hy' : y ∈ l := by
          rcases List.mem_cons.mp hy with z | z
          · exact absurd z.symm q
          · exact z
        rw [h2 hy']
        rw [beq_eq_false_iff_ne.mpr q, cond_false, cond_false]
        by_cases z : k ≤ l.idxOf y
        · rw [if_pos z, if_pos (by omega)]
        · rw [if_neg z, if_neg (by omega)]
theorem idx_ord : ∀ {N : List α} {ks : List Nat}, N.Nodup → ks.length = N.length → CodeOk ks → ∀ {i : Nat} {n : α}, N[i]? = some n → (ordC N ks).idxOf n = posC i ks
  | n :: N, k :: ks, hN, hl, hc, i, m, e => by
    have hl' : ks.length = N.length := by simpa using hl
    have hN' := List.nodup_cons.mp hN
    have pm := ordC_perm hl'
    have hn : n ∉ ordC N ks := fun h => hN'.1 (pm.mem_iff.mp h)
    have hk : k ≤ (ordC N ks).length := by rw [pm.length_eq, ← hl']; exact hc.1
    cases i with
    | zero =>
      simp at e; subst e
      exact (idx_ins (y := n) hk hn).1
    | succ i =>
      have e' : N[i]? = some m := by simpa using e
      have ih := idx_ord hN'.2 hl' hc.2 e'
      show (insAt k n (ordC N ks)).idxOf m = _
      rw [(idx_ins (y := m) hk hn).2 (pm.mem_iff.mpr (List.mem_of_getElem? e')), ih]
      rfl
theorem map_idx : ∀ {l : List α}, l.Nodup → l.map (fun x => l.idxOf x) = List.range l.length
  | [], _ => rfl
  | a :: l, h => by
    have h' := List.nodup_cons.mp h
    rw [List.length_cons, List.range_succ_eq_map, ← map_idx h'.2, List.map_cons, List.map_map]
    congr 1
    · simp
    · refine List.map_congr_left fun x hx => ?_
      have : ¬ a = x := fun e => h'.1 (e ▸ hx)
      simp [List.idxOf_cons, beq_eq_false_iff_ne.mpr this]
theorem count_idx {l : List α} (h : l.Nodup) (k : Nat) : l.countP (fun x => decide (l.idxOf x < k)) = min l.length k := by
  have e : l.countP (fun x => decide (l.idxOf x < k)) = (l.map fun x => l.idxOf x).countP (fun p => decide (p < k)) := by rw [List.countP_map]; rfl
  rw [e, map_idx h, countP_lt]
theorem pas_congr {O O' : List α} : ∀ {C : List α}, (∀ x ∈ C, ∀ y ∈ C, (O.idxOf x < O.idxOf y) ↔ (O'.idxOf x < O'.idxOf y)) → pas O C = pas O' C
  | [], _ => rfl
  | n :: C, h => by
    simp only [pas]
    rw [pas_congr fun x hx y hy => h x (List.mem_cons_of_mem _ hx) y (List.mem_cons_of_mem _ hy)]
    congr 1
    exact List.countP_congr fun x hx => by simp only [decide_eq_true_eq]; exact h x (List.mem_cons_of_mem _ hx) n List.mem_cons_self
theorem pas_ord : ∀ {N : List α} {ks : List Nat}, N.Nodup → ks.length = N.length → CodeOk ks → pas (ordC N ks) N = ks
  | [], [], _, _, _ => rfl
  | n :: N, k :: ks, hN, hl, hc => by
    have hl' : ks.length = N.length := by simpa using hl
    have hN' := List.nodup_cons.mp hN
    have pm := ordC_perm hl'
    have hn : n ∉ ordC N ks := fun h => hN'.1 (pm.mem_iff.mp h)
    have hk : k ≤ (ordC N ks).length := by rw [pm.length_eq, ← hl']; exact hc.1
    have nd : (ordC N ks).Nodup := pm.nodup_iff.mpr hN'.2
    show pas (insAt k n (ordC N ks)) (n :: N) = _
    simp only [pas]
    congr 1
    · rw [(idx_ins (y := n) hk hn).1]
      have e1 : N.countP (fun x => decide ((insAt k n (ordC N ks)).idxOf x < k)) = N.countP fun x => decide ((ordC N ks).idxOf x < k) := by
        refine List.countP_congr fun x hx => ?_
        rw [(idx_ins (y := x) hk hn).2 (pm.mem_iff.mpr hx)]
        by_cases z : k ≤ (ordC N ks).idxOf x <;> simp [z] <;> omega
      rw [e1, ← pm.countP_eq, count_idx nd, Nat.min_eq_right hk]
    · rw [pas_congr (O' := ordC N ks) fun x hx y hy => ?_]
      · exact pas_ord hN'.2 hl' hc.2
      · rw [(idx_ins (y := x) hk hn).2 (pm.mem_iff.mpr hx), (idx_ins (y := y) hk hn).2 (pm.mem_iff.mpr hy)]
        by_cases z : k ≤ (ordC N ks).idxOf x <;> by_cases z2 : k ≤ (ordC N ks).idxOf y <;> simp [z, z2] <;> omega
end
/-! ### by how many each can be passed at most -/
section
variable {α : Type} [DecidableEq α]
def capsL : Ln α → List Nat
  | [] => []
  | p :: L => min p.2.toNat L.length :: capsL L
theorem capsL_len : ∀ L : Ln α, (capsL L).length = L.length
  | [] => rfl
  | p :: L => by simp [capsL, capsL_len L]
theorem capsL_ok : ∀ L : Ln α, CodeOk (capsL L)
  | [] => trivial
  | p :: L => ⟨by rw [capsL_len]; exact Nat.min_le_right _ _, capsL_ok L⟩
theorem fits_codes : ∀ {L : Ln α} {ks : List Nat}, (∀ p ∈ L, 0 ≤ p.2) → ks ∈ codes (capsL L) → fits ks L = true
  | [], ks, _, h => by simp [capsL, codes] at h; subst h; rfl
  | p :: L, ks, h0, h => by
    simp only [capsL, codes, List.mem_flatMap, List.mem_range, List.mem_map] at h
    obtain ⟨k, hk, r, hr, rfl⟩ := h
    have := h0 p List.mem_cons_self
    simp only [fits, Bool.and_eq_true, decide_eq_true_eq]
    exact ⟨by omega, fits_codes (fun q hq => h0 q (List.mem_cons_of_mem _ hq)) hr⟩
theorem codes_fits : ∀ {L : Ln α} {ks : List Nat}, CodeOk ks → ks.length = L.length → fits ks L = true → ks ∈ codes (capsL L)
  | [], ks, _, h, _ => by simp [capsL, codes, List.length_eq_zero_iff.mp h]
  | p :: L, k :: ks, hc, hl, h => by
    have hl' : ks.length = L.length := by simpa using hl
    simp only [fits, Bool.and_eq_true, decide_eq_true_eq] at h
    simp only [capsL, codes, List.mem_flatMap, List.mem_range, List.mem_map]
    refine ⟨k, ?_, ks, codes_fits hc.2 hl' h.2, rfl⟩
    have := hc.1
    have := h.1
    omega
end
/-! ### the foremost place, the hindmost -/
def fmS : List Nat → Nat → Nat
  | [], _ => 0
  | _ :: _, 0 => 0
  | c :: cs, i + 1 => if fmS cs i + 1 ≤ c then fmS cs i else fmS cs i + 1
def fmP : List Nat → Nat → List Nat
  | [], _ => []
  | _ :: cs, 0 => List.replicate (cs.length + 1) 0
  | c :: cs, i + 1 => (if fmS cs i + 1 ≤ c then fmS cs i + 1 else 0) :: fmP cs i
def lsP : List Nat → Nat → List Nat
  | [], _ => []
  | c :: cs, 0 => c :: List.replicate cs.length 0
  | _ :: cs, i + 1 => 0 :: lsP cs i
theorem zero_codes : ∀ cs : List Nat, List.replicate cs.length 0 ∈ codes cs
  | [] => by simp [codes]
  | c :: cs => by
    simp only [codes, List.mem_flatMap, List.mem_range, List.mem_map, List.length_cons, List.replicate_succ]
    exact ⟨0, by omega, _, zero_codes cs, rfl⟩
theorem cons_codes {c : Nat} {cs : List Nat} {k : Nat} {ks : List Nat} : k :: ks ∈ codes (c :: cs) ↔ k ≤ c ∧ ks ∈ codes cs := by
  simp only [codes, List.mem_flatMap, List.mem_range, List.mem_map]
  constructor
  · rintro ⟨k', h1, r, h2, e⟩
    obtain ⟨rfl, rfl⟩ := List.cons.inj e
    exact ⟨by omega, h2⟩
  · rintro ⟨h1, h2⟩; exact ⟨k, by omega, ks, h2, rfl⟩
theorem fm_ok : ∀ {cs : List Nat} {i : Nat}, i < cs.length → fmP cs i ∈ codes cs ∧ posC i (fmP cs i) = fmS cs i ∧ ∀ ks ∈ codes cs, fmS cs i ≤ posC i ks
  | c :: cs, 0, _ => by
    refine ⟨?_, by simp [fmP, posC, fmS, List.replicate_succ], fun ks _ => Nat.zero_le _⟩
    exact zero_codes (c :: cs)
  | c :: cs, i + 1, h => by
    obtain ⟨h1, h2, h3⟩ := fm_ok (cs := cs) (i := i) (by simpa using h)
    refine ⟨?_, ?_, fun ks hk => ?_⟩
    · refine cons_codes.mpr ⟨?_, h1⟩
      split <;> omega
    · simp only [fmP, posC, fmS, h2]
      split <;> split <;> omega
    · cases ks with
      | nil =>
        have := code_len hk
        simp at this
      | cons k ks =>
        obtain ⟨q1, q2⟩ := cons_codes.mp hk
        have := h3 ks q2
        simp only [fmS, posC]
        split <;> split <;> omega
theorem ls_ok : ∀ {cs : List Nat} {i c : Nat}, cs[i]? = some c → lsP cs i ∈ codes cs ∧ posC i (lsP cs i) = i + c ∧ ∀ ks ∈ codes cs, posC i ks ≤ i + c
  | c :: cs, 0, c', h => by
    simp at h; subst h
    refine ⟨cons_codes.mpr ⟨Nat.le_refl _, zero_codes cs⟩, by simp [lsP, posC], fun ks hk => ?_⟩
    cases ks with
    | nil => simp [posC]
    | cons k ks => have := (cons_codes.mp hk).1; simp [posC]; omega
  | c :: cs, i + 1, c', h => by
    obtain ⟨h1, h2, h3⟩ := ls_ok (cs := cs) (i := i) (c := c') (by simpa using h)
    refine ⟨cons_codes.mpr ⟨Nat.zero_le _, h1⟩, ?_, fun ks hk => ?_⟩
    · simp only [lsP, posC, h2, Nat.zero_le, if_true]; omega
    · cases ks with
      | nil => simp [posC]
      | cons k ks =>
        have := h3 ks (cons_codes.mp hk).2
        simp only [posC]
        split <;> omega
theorem cnt_pos {cs : List Nat} {i p : Nat} : 0 < cntAt cs i p ↔ ∃ ks ∈ codes cs, posC i ks = p := by
  unfold cntAt
  rw [List.countP_pos_iff]
  simp
/-- the least and the greatest of those in a row that are meant -/
theorem spots_ends {q : Nat → Bool} {n a b : Nat} (ha : q a = true) (hb : q b = true) (hbn : b < n) (h : ∀ p, q p = true → a ≤ p ∧ p ≤ b) : ((List.range n).filter q).head? = some a ∧ ((List.range n).filter q).getLast? = some b := by
  have hab := (h b hb).1
  constructor
  · have e : List.range n = List.range a ++ (List.range' a (n - a)) := by
      rw [List.range_eq_range', List.range_eq_range']
      have := List.range'_append (s := 0) (m := a) (n := n - a) (step := 1)
      simp at this
      rw [this]; congr 1; omega
    rw [e, List.filter_append, List.filter_eq_nil_iff.mpr (fun p hp hq => by have := h p hq; have := List.mem_range.mp hp; omega), List.nil_append]
    have : n - a = (n - a - 1) + 1 := by omega
    rw [this, List.range'_succ, List.filter_cons, if_pos ha]; rfl
  · have e : List.range n = List.range b ++ b :: (List.range' (b + 1) (n - b - 1)) := by
      rw [List.range_eq_range', List.range_eq_range', ← List.range'_succ]
      have := List.range'_append (s := 0) (m := b) (n := n - b - 1 + 1) (step := 1)
      simp at this
      rw [this]; congr 1; omega
    have e2 : (List.range' (b + 1) (n - b - 1)).filter q = [] := List.filter_eq_nil_iff.mpr fun p hp hq => by
      have := h p hq
      have := List.mem_range'_1.mp hp
      omega
    rw [e, List.filter_append, List.filter_cons, if_pos hb, e2]
    simp
end My

set_option Elab.async false
set_option linter.all false
set_option maxRecDepth 100000
set_option maxHeartbeats 4000000
/-! # the defs of the text: what each means, and that it means it (printed by gen.py) -/
namespace My
open PySem PySem.Spec PyProof.Rows L2 Z
def top (i : Nat) : Stmt := PySem.Challenge.pw_letpass_k06_whole_counts_of_great_lines.main.body.getD i (.Pass ⟨0, 0, 0, 0⟩)
structure Gm (mg : Str → Option Value) (t_LETTERS t_MOST_FOLK t_MOST_LETS : Tok) : Prop where
  z_all : mg "all" = none
  z_bool : mg "bool" = none
  z_enumerate : mg "enumerate" = none
  z_int : mg "int" = none
  z_isinstance : mg "isinstance" = none
  z_len : mg "len" = none
  z_list : mg "list" = none
  z_max : mg "max" = none
  z_min : mg "min" = none
  z_range : mg "range" = none
  z_sorted : mg "sorted" = none
  z_str : mg "str" = none
  z_sum : mg "sum" = none
  z_tuple : mg "tuple" = none
  c_LETTERS : mg "LETTERS" = some (.str "abcdefghijklmnopqrstuvwxyz" t_LETTERS)
  c_MOST_FOLK : mg "MOST_FOLK" = some (.int 30 t_MOST_FOLK)
  c_MOST_LETS : mg "MOST_LETS" = some (.int 99 t_MOST_LETS)
section
variable {P : Program} {w : World} {K : PySem.W.Frag} {mg : Str → Option Value} {t_LETTERS t_MOST_FOLK t_MOST_LETS : Tok} {base : Heap}
/-! ### is_from -/
theorem sc_is_from : FnScope ["thing", "low", "high"] ["thing", "low", "high"] (defScope (top 8)) := ⟨rfl, rfl, rfl, by decide +kernel, rfl, by decide +kernel, by decide +kernel⟩
noncomputable def d_is_from : DS := (dRet (dAnd (dIsi [.int] (dVar 0)) (dAnd (dNot (dIsi [.bool] (dVar 0))) (dChain oLe oLe (dVar 1) (dVar 0) (dVar 2)))))
noncomputable def F_is_from : PF := mkFn 3 d_is_from
theorem b_is_from (g : Gm mg t_LETTERS t_MOST_FOLK t_MOST_LETS)  {f : Addr} (cdv : Value) (A : Around) (outer : List Env) (s : Shared) (H : Hp) (E : XK) (hr : Room 0 (A.deeper (envOfC "is_from" (defScope (top 8)) s.heap.objs.size f cdv))) :
    ZSs (cxOf CX0 P w K mg base ["thing", "low", "high"] "is_from" (defScope (top 8)) f cdv A outer s H E).nox [] W0 (defBody (top 8)) d_is_from :=
  (zss_one (zs_ret (ze_and (ze_isi (t := .int) (zv 0) (by rfl) g.z_isinstance (by rfl) g.z_int (by decide +kernel)) (ze_and (ze_not (ze_isi (t := .bool) (zv 0) (by rfl) g.z_isinstance (by rfl) g.z_bool (by decide +kernel))) (ze_one (ze_chain oz_le oz_le (zv 1) (zv 0) (zv 2)))))))
theorem ok_is_from (g : Gm mg t_LETTERS t_MOST_FOLK t_MOST_LETS)  {f : Addr} {fd : FuncData} (F : Fun K "is_from" "is_from" (top 8) f fd) : FnOk P w K mg base CX0 1 f fd ["thing", "low", "high"] (spZ ⟨K, mg, []⟩ 3 F_is_from) :=
  fn_ok F sc_is_from fun cdv A outer s H E hr => b_is_from g  cdv A outer s H E hr
theorem f_is_from (g : Gm mg t_LETTERS t_MOST_FOLK t_MOST_LETS)  {f : Addr} {fd : FuncData} (F : Fun K "is_from" "is_from" (top 8) f fd) (B : Binds K fd ["thing", "low", "high"] []) (m : mg "is_from" = some (.ref f)) : FnZ P w K mg base [] "is_from" 3 1 F_is_from :=
  ⟨f, fd, ["thing", "low", "high"], rfl, ok_is_from g  F, m, F.kp, B⟩
/-! ### is_name -/
theorem sc_is_name : FnScope ["thing", "sign"] ["thing"] (defScope (top 9)) := ⟨rfl, rfl, rfl, by decide +kernel, rfl, by decide +kernel, by decide +kernel⟩
noncomputable def d_is_name : DS := (dRet (dAnd (dIsi [.str] (dVar 0)) (dAnd (dChain oLe oLe (dLit (.int 1)) (dFn fLen (dConsX (dVar 0) dNil)) (dLit (.int 8))) (dFn fAll (dConsX (dLc (iAny (dVar 0)) (gSet 1) dYes (dBin oIn (dVar 1) (dLit (.str "abcdefghijklmnopqrstuvwxyz"))) [1]) dNil)))))
noncomputable def F_is_name : PF := mkFn 2 d_is_name
theorem b_is_name (g : Gm mg t_LETTERS t_MOST_FOLK t_MOST_LETS)  {f : Addr} (cdv : Value) (A : Around) (outer : List Env) (s : Shared) (H : Hp) (E : XK) (hr : Room 0 (A.deeper (envOfC "is_name" (defScope (top 9)) s.heap.objs.size f cdv))) :
    ZSs (cxOf CX0 P w K mg base ["thing", "sign"] "is_name" (defScope (top 9)) f cdv A outer s H E).nox [] W0 (defBody (top 9)) d_is_name :=
  (zss_one (zs_ret (ze_and (ze_isi (t := .str) (zv 0) (by rfl) g.z_isinstance (by rfl) g.z_str (by decide +kernel)) (ze_and (ze_chain oz_le oz_le ze_int (ze_callB cz_len (by rfl) g.z_len (by decide +kernel) (zx_cons (zv 0) zx_nil)) ze_int) (ze_one (ze_callB (cz_all (by rfl)) (by rfl) g.z_all (by decide +kernel) (zx_cons (ze_lc (own := [("sign", 1)]) rfl sc_is_name.nd (zi_any (zv 0)) (blkOk_by (N := ["thing", "sign"]) (sc := defScope (top 9)) (by decide +kernel)) (by decide) (fun _ _ _ _ _ => (zg 1 sc_is_name.nd)) (fun _ _ _ _ _ => zts_nil) (fun _ _ _ _ _ => (ze_cmp (oz_in (hu65 hr)) (zv 1) (ze_gstr (by rfl) g.c_LETTERS) (by first | exact nomark _ | with_unfolding_all rfl)))) zx_nil)))))))
theorem ok_is_name (g : Gm mg t_LETTERS t_MOST_FOLK t_MOST_LETS)  {f : Addr} {fd : FuncData} (F : Fun K "is_name" "is_name" (top 9) f fd) : FnOk P w K mg base CX0 1 f fd ["thing"] (spZ ⟨K, mg, []⟩ 1 F_is_name) :=
  fn_ok F sc_is_name fun cdv A outer s H E hr => b_is_name g  cdv A outer s H E hr
theorem f_is_name (g : Gm mg t_LETTERS t_MOST_FOLK t_MOST_LETS)  {f : Addr} {fd : FuncData} (F : Fun K "is_name" "is_name" (top 9) f fd) (B : Binds K fd ["thing"] []) (m : mg "is_name" = some (.ref f)) : FnZ P w K mg base [] "is_name" 1 1 F_is_name :=
  ⟨f, fd, ["thing"], rfl, ok_is_name g  F, m, F.kp, B⟩
/-! ### are_names -/
theorem sc_are_names : FnScope ["thing", "name"] ["thing"] (defScope (top 10)) := ⟨rfl, rfl, rfl, by decide +kernel, rfl, by decide +kernel, by decide +kernel⟩
noncomputable def d_are_names : DS := (dSeq (dIfS (dOrT (dNotT (dTst (dIsi [.tuple] (dVar 0)))) (dNotT (dTst (dChain oLe oLe (dLit (.int 1)) (dFn fLen (dConsX (dVar 0) dNil)) (dLit (.int 30)))))) (dRet (dLit (.bl false))) dSkip)
    (dRet (dAnd (dFn fAll (dConsX (dLc (iAny (dVar 0)) (gSet 1) dYes (dCall 1 F_is_name (dCons (dVar 1) dNil)) [1]) dNil)) (dFn fAll (dConsX (dLc (iAny (dVar 0)) (gSet 1) dYes (dBin oEq (dMeth2 mCount (dVar 0) (dCons (dVar 1) dNil)) (dLit (.int 1))) [1]) dNil)))))
noncomputable def F_are_names : PF := mkFn 2 d_are_names
theorem b_are_names (g : Gm mg t_LETTERS t_MOST_FOLK t_MOST_LETS) (h_is_name : FnZ P w K mg base [] "is_name" 1 1 F_is_name) {f : Addr} (cdv : Value) (A : Around) (outer : List Env) (s : Shared) (H : Hp) (E : XK) (hr : Room 1 (A.deeper (envOfC "are_names" (defScope (top 10)) s.heap.objs.size f cdv))) :
    ZSs (cxOf CX0 P w K mg base ["thing", "name"] "are_names" (defScope (top 10)) f cdv A outer s H E).nox [] W0 (defBody (top 10)) d_are_names :=
  (zss_cons (zs_if (zt_w (zw_or (zt_not (zt_val (ze_isi (t := .tuple) (zv 0) (by rfl) g.z_isinstance (by rfl) g.z_tuple (by decide +kernel)))) (zw_or1 (zt_not (zt_chain oz_le oz_le ze_int (ze_callB cz_len (by rfl) g.z_len (by decide +kernel) (zx_cons (zv 0) zx_nil)) (ze_gint (by rfl) g.c_MOST_FOLK)))))) (zss_one (zs_ret ze_bl)) zss_nil)
    (zss_one (zs_ret (ze_and (ze_callB (cz_all (by rfl)) (by rfl) g.z_all (by decide +kernel) (zx_cons (ze_lc (own := [("name", 1)]) rfl sc_are_names.nd (zi_any (zv 0)) (blkOk_by (N := ["thing", "name"]) (sc := defScope (top 10)) (by decide +kernel)) (by decide) (fun _ _ _ _ _ => (zg 1 sc_are_names.nd)) (fun _ _ _ _ _ => zts_nil) (fun _ _ _ _ _ => (ze_call h_is_name (hr.mono (by omega)) (by rfl) (za_cons (zv 1) za_nil)))) zx_nil)) (ze_one (ze_callB (cz_all (by rfl)) (by rfl) g.z_all (by decide +kernel) (zx_cons (ze_lc (own := [("name", 1)]) rfl sc_are_names.nd (zi_any (zv 0)) (blkOk_by (N := ["thing", "name"]) (sc := defScope (top 10)) (by decide +kernel)) (by decide) (fun _ _ _ _ _ => (zg 1 sc_are_names.nd)) (fun _ _ _ _ _ => zts_nil) (fun _ _ _ _ _ => (ze_cmp (oz_eq (hu64 hr)) (ze_meth2 PySem.F.slot_list_count PySem.F.type_list_count PySem.F.slot_tuple_count PySem.F.type_tuple_count (mz_count_list (hu65 hr)) (mz_count_tuple (hu65 hr)) (zv 0) (za_cons (zv 1) za_nil)) ze_int (by first | exact nomark _ | with_unfolding_all rfl)))) zx_nil)))))))
theorem ok_are_names (g : Gm mg t_LETTERS t_MOST_FOLK t_MOST_LETS) (h_is_name : FnZ P w K mg base [] "is_name" 1 1 F_is_name) {f : Addr} {fd : FuncData} (F : Fun K "are_names" "are_names" (top 10) f fd) : FnOk P w K mg base CX0 2 f fd ["thing"] (spZ ⟨K, mg, []⟩ 1 F_are_names) :=
  fn_ok F sc_are_names fun cdv A outer s H E hr => b_are_names g h_is_name cdv A outer s H E hr
theorem f_are_names (g : Gm mg t_LETTERS t_MOST_FOLK t_MOST_LETS) (h_is_name : FnZ P w K mg base [] "is_name" 1 1 F_is_name) {f : Addr} {fd : FuncData} (F : Fun K "are_names" "are_names" (top 10) f fd) (B : Binds K fd ["thing"] []) (m : mg "are_names" = some (.ref f)) : FnZ P w K mg base [] "are_names" 1 2 F_are_names :=
  ⟨f, fd, ["thing"], rfl, ok_are_names g h_is_name F, m, F.kp, B⟩
/-! ### is_line -/
theorem sc_is_line : FnScope ["thing", "row"] ["thing"] (defScope (top 11)) := ⟨rfl, rfl, rfl, by decide +kernel, rfl, by decide +kernel, by decide +kernel⟩
noncomputable def d_is_line : DS := (dSeq (dIfS (dOrT (dNotT (dTst (dIsi [.tuple] (dVar 0)))) (dNotT (dTst (dFn fAll (dConsX (dLc (iAny (dVar 0)) (gSet 1) dYes (dAnd (dIsi [.tuple] (dVar 1)) (dBin oEq (dFn fLen (dConsX (dVar 1) dNil)) (dLit (.int 2)))) [1]) dNil))))) (dRet (dLit (.bl false))) dSkip)
    (dRet (dAnd (dCall 1 F_are_names (dCons (dFn fTuple (dConsX (dLc (iAny (dVar 0)) (gSet 1) dYes (dBin oIx (dVar 1) (dLit (.int 0))) [1]) dNil)) dNil)) (dFn fAll (dConsX (dLc (iAny (dVar 0)) (gSet 1) dYes (dCall 3 F_is_from (dCons (dBin oIx (dVar 1) (dLit (.int 1))) (dCons (dLit (.int 0)) (dCons (dLit (.int 99)) dNil)))) [1]) dNil)))))
noncomputable def F_is_line : PF := mkFn 2 d_is_line
theorem b_is_line (g : Gm mg t_LETTERS t_MOST_FOLK t_MOST_LETS) (h_are_names : FnZ P w K mg base [] "are_names" 1 2 F_are_names) (h_is_from : FnZ P w K mg base [] "is_from" 3 1 F_is_from) {f : Addr} (cdv : Value) (A : Around) (outer : List Env) (s : Shared) (H : Hp) (E : XK) (hr : Room 2 (A.deeper (envOfC "is_line" (defScope (top 11)) s.heap.objs.size f cdv))) :
    ZSs (cxOf CX0 P w K mg base ["thing", "row"] "is_line" (defScope (top 11)) f cdv A outer s H E).nox [] W0 (defBody (top 11)) d_is_line :=
  (zss_cons (zs_if (zt_w (zw_or (zt_not (zt_val (ze_isi (t := .tuple) (zv 0) (by rfl) g.z_isinstance (by rfl) g.z_tuple (by decide +kernel)))) (zw_or1 (zt_not (zt_val (ze_callB (cz_all (by rfl)) (by rfl) g.z_all (by decide +kernel) (zx_cons (ze_lc (own := [("row", 1)]) rfl sc_is_line.nd (zi_any (zv 0)) (blkOk_by (N := ["thing", "row"]) (sc := defScope (top 11)) (by decide +kernel)) (by decide) (fun _ _ _ _ _ => (zg 1 sc_is_line.nd)) (fun _ _ _ _ _ => zts_nil) (fun _ _ _ _ _ => (ze_and (ze_isi (t := .tuple) (zv 1) (by rfl) g.z_isinstance (by rfl) g.z_tuple (by decide +kernel)) (ze_one (ze_cmp (oz_eq (hu64 hr)) (ze_callB cz_len (by rfl) g.z_len (by decide +kernel) (zx_cons (zv 1) zx_nil)) ze_int (by first | exact nomark _ | with_unfolding_all rfl)))))) zx_nil))))))) (zss_one (zs_ret ze_bl)) zss_nil)
    (zss_one (zs_ret (ze_and (ze_call h_are_names (hr.mono (by omega)) (by rfl) (za_cons (ze_callTy cz_tuple (by rfl) g.z_tuple (by decide +kernel) (zx_cons (ze_lc (own := [("row", 1)]) rfl sc_is_line.nd (zi_any (zv 0)) (blkOk_by (N := ["thing", "row"]) (sc := defScope (top 11)) (by decide +kernel)) (by decide) (fun _ _ _ _ _ => (zg 1 sc_is_line.nd)) (fun _ _ _ _ _ => zts_nil) (fun _ _ _ _ _ => (ze_ix (zv 1) ze_int))) zx_nil)) za_nil)) (ze_one (ze_callB (cz_all (by rfl)) (by rfl) g.z_all (by decide +kernel) (zx_cons (ze_lc (own := [("row", 1)]) rfl sc_is_line.nd (zi_any (zv 0)) (blkOk_by (N := ["thing", "row"]) (sc := defScope (top 11)) (by decide +kernel)) (by decide) (fun _ _ _ _ _ => (zg 1 sc_is_line.nd)) (fun _ _ _ _ _ => zts_nil) (fun _ _ _ _ _ => (ze_call h_is_from (hr.mono (by omega)) (by rfl) (za_cons (ze_ix (zv 1) ze_int) (za_cons ze_int (za_cons (ze_gint (by rfl) g.c_MOST_LETS) za_nil)))))) zx_nil)))))))
theorem ok_is_line (g : Gm mg t_LETTERS t_MOST_FOLK t_MOST_LETS) (h_are_names : FnZ P w K mg base [] "are_names" 1 2 F_are_names) (h_is_from : FnZ P w K mg base [] "is_from" 3 1 F_is_from) {f : Addr} {fd : FuncData} (F : Fun K "is_line" "is_line" (top 11) f fd) : FnOk P w K mg base CX0 3 f fd ["thing"] (spZ ⟨K, mg, []⟩ 1 F_is_line) :=
  fn_ok F sc_is_line fun cdv A outer s H E hr => b_is_line g h_are_names h_is_from cdv A outer s H E hr
theorem f_is_line (g : Gm mg t_LETTERS t_MOST_FOLK t_MOST_LETS) (h_are_names : FnZ P w K mg base [] "are_names" 1 2 F_are_names) (h_is_from : FnZ P w K mg base [] "is_from" 3 1 F_is_from) {f : Addr} {fd : FuncData} (F : Fun K "is_line" "is_line" (top 11) f fd) (B : Binds K fd ["thing"] []) (m : mg "is_line" = some (.ref f)) : FnZ P w K mg base [] "is_line" 1 3 F_is_line :=
  ⟨f, fd, ["thing"], rfl, ok_is_line g h_are_names h_is_from F, m, F.kp, B⟩
/-! ### need_line -/
theorem sc_need_line : FnScope ["line"] ["line"] (defScope (top 12)) := ⟨rfl, rfl, rfl, by decide +kernel, rfl, by decide +kernel, by decide +kernel⟩
noncomputable def d_need_line : DS := (dIfS (dNotT (dTst (dCall 1 F_is_line (dCons (dVar 0) dNil)))) dNever dSkip)
noncomputable def F_need_line : PF := mkFn 1 d_need_line
theorem b_need_line (g : Gm mg t_LETTERS t_MOST_FOLK t_MOST_LETS) (h_is_line : FnZ P w K mg base [] "is_line" 1 3 F_is_line) {f : Addr} (cdv : Value) (A : Around) (outer : List Env) (s : Shared) (H : Hp) (E : XK) (hr : Room 3 (A.deeper (envOfC "need_line" (defScope (top 12)) s.heap.objs.size f cdv))) :
    ZSs (cxOf CX0 P w K mg base ["line"] "need_line" (defScope (top 12)) f cdv A outer s H E).nox [] W0 (defBody (top 12)) d_need_line :=
  (zss_one (zs_if (zt_not (zt_val (ze_call h_is_line (hr.mono (by omega)) (by rfl) (za_cons (zv 0) za_nil)))) (zss_one zs_never) zss_nil))
theorem ok_need_line (g : Gm mg t_LETTERS t_MOST_FOLK t_MOST_LETS) (h_is_line : FnZ P w K mg base [] "is_line" 1 3 F_is_line) {f : Addr} {fd : FuncData} (F : Fun K "need_line" "need_line" (top 12) f fd) : FnOk P w K mg base CX0 4 f fd ["line"] (spZ ⟨K, mg, []⟩ 1 F_need_line) :=
  fn_ok F sc_need_line fun cdv A outer s H E hr => b_need_line g h_is_line cdv A outer s H E hr
theorem f_need_line (g : Gm mg t_LETTERS t_MOST_FOLK t_MOST_LETS) (h_is_line : FnZ P w K mg base [] "is_line" 1 3 F_is_line) {f : Addr} {fd : FuncData} (F : Fun K "need_line" "need_line" (top 12) f fd) (B : Binds K fd ["line"] []) (m : mg "need_line" = some (.ref f)) : FnZ P w K mg base [] "need_line" 1 4 F_need_line :=
  ⟨f, fd, ["line"], rfl, ok_need_line g h_is_line F, m, F.kp, B⟩
/-! ### names_of -/
theorem sc_names_of : FnScope ["line", "name", "lets"] ["line"] (defScope (top 13)) := ⟨rfl, rfl, rfl, by decide +kernel, rfl, by decide +kernel, by decide +kernel⟩
noncomputable def d_names_of : DS := (dRet (dFn fTuple (dConsX (dLc (iAny (dVar 0)) (gTupZ (gAnd (gSet 1) (gAnd (gSet 2) gNon))) dYes (dVar 1) [1, 2]) dNil)))
noncomputable def F_names_of : PF := mkFn 3 d_names_of
theorem b_names_of (g : Gm mg t_LETTERS t_MOST_FOLK t_MOST_LETS)  {f : Addr} (cdv : Value) (A : Around) (outer : List Env) (s : Shared) (H : Hp) (E : XK) (hr : Room 0 (A.deeper (envOfC "names_of" (defScope (top 13)) s.heap.objs.size f cdv))) :
    ZSs (cxOf CX0 P w K mg base ["line", "name", "lets"] "names_of" (defScope (top 13)) f cdv A outer s H E).nox [] W0 (defBody (top 13)) d_names_of :=
  (zss_one (zs_ret (ze_callTy cz_tuple (by rfl) g.z_tuple (by decide +kernel) (zx_cons (ze_lc (own := [("name", 1), ("lets", 2)]) rfl sc_names_of.nd (zi_any (zv 0)) (blkOk_by (N := ["line", "name", "lets"]) (sc := defScope (top 13)) (by decide +kernel)) (by decide) (fun _ _ _ _ _ => (zg_tup rfl (zgs_cons (zg 1 sc_names_of.nd) (zgs_cons (zg 2 sc_names_of.nd) zgs_nil)))) (fun _ _ _ _ _ => zts_nil) (fun _ _ _ _ _ => (zv 1))) zx_nil))))
theorem ok_names_of (g : Gm mg t_LETTERS t_MOST_FOLK t_MOST_LETS)  {f : Addr} {fd : FuncData} (F : Fun K "names_of" "names_of" (top 13) f fd) : FnOk P w K mg base CX0 1 f fd ["line"] (spZ ⟨K, mg, []⟩ 1 F_names_of) :=
  fn_ok F sc_names_of fun cdv A outer s H E hr => b_names_of g  cdv A outer s H E hr
theorem f_names_of (g : Gm mg t_LETTERS t_MOST_FOLK t_MOST_LETS)  {f : Addr} {fd : FuncData} (F : Fun K "names_of" "names_of" (top 13) f fd) (B : Binds K fd ["line"] []) (m : mg "names_of" = some (.ref f)) : FnZ P w K mg base [] "names_of" 1 1 F_names_of :=
  ⟨f, fd, ["line"], rfl, ok_names_of g  F, m, F.kp, B⟩
/-! ### need_name -/
theorem sc_need_name : FnScope ["line", "name"] ["line", "name"] (defScope (top 14)) := ⟨rfl, rfl, rfl, by decide +kernel, rfl, by decide +kernel, by decide +kernel⟩
noncomputable def d_need_name : DS := (dSeq (dDrop (dCall 1 F_need_line (dCons (dVar 0) dNil)))
    (dIfS (dOrT (dNotT (dTst (dIsi [.str] (dVar 1)))) (dTst (dBin oNotIn (dVar 1) (dCall 1 F_names_of (dCons (dVar 0) dNil))))) dNever dSkip))
noncomputable def F_need_name : PF := mkFn 2 d_need_name
theorem b_need_name (g : Gm mg t_LETTERS t_MOST_FOLK t_MOST_LETS) (h_need_line : FnZ P w K mg base [] "need_line" 1 4 F_need_line) (h_names_of : FnZ P w K mg base [] "names_of" 1 1 F_names_of) {f : Addr} (cdv : Value) (A : Around) (outer : List Env) (s : Shared) (H : Hp) (E : XK) (hr : Room 4 (A.deeper (envOfC "need_name" (defScope (top 14)) s.heap.objs.size f cdv))) :
    ZSs (cxOf CX0 P w K mg base ["line", "name"] "need_name" (defScope (top 14)) f cdv A outer s H E).nox [] W0 (defBody (top 14)) d_need_name :=
  (zss_cons (zs_expr (ze_call h_need_line (hr.mono (by omega)) (by rfl) (za_cons (zv 0) za_nil)))
    (zss_one (zs_if (zt_w (zw_or (zt_not (zt_val (ze_isi (t := .str) (zv 1) (by rfl) g.z_isinstance (by rfl) g.z_str (by decide +kernel)))) (zw_or1 (zt_cmp (oz_notin (hu65 hr)) (zv 1) (ze_call h_names_of (hr.mono (by omega)) (by rfl) (za_cons (zv 0) za_nil)) (by first | exact nomark _ | with_unfolding_all rfl))))) (zss_one zs_never) zss_nil)))
theorem ok_need_name (g : Gm mg t_LETTERS t_MOST_FOLK t_MOST_LETS) (h_need_line : FnZ P w K mg base [] "need_line" 1 4 F_need_line) (h_names_of : FnZ P w K mg base [] "names_of" 1 1 F_names_of) {f : Addr} {fd : FuncData} (F : Fun K "need_name" "need_name" (top 14) f fd) : FnOk P w K mg base CX0 5 f fd ["line", "name"] (spZ ⟨K, mg, []⟩ 2 F_need_name) :=
  fn_ok F sc_need_name fun cdv A outer s H E hr => b_need_name g h_need_line h_names_of cdv A outer s H E hr
theorem f_need_name (g : Gm mg t_LETTERS t_MOST_FOLK t_MOST_LETS) (h_need_line : FnZ P w K mg base [] "need_line" 1 4 F_need_line) (h_names_of : FnZ P w K mg base [] "names_of" 1 1 F_names_of) {f : Addr} {fd : FuncData} (F : Fun K "need_name" "need_name" (top 14) f fd) (B : Binds K fd ["line", "name"] []) (m : mg "need_name" = some (.ref f)) : FnZ P w K mg base [] "need_name" 2 5 F_need_name :=
  ⟨f, fd, ["line", "name"], rfl, ok_need_name g h_need_line h_names_of F, m, F.kp, B⟩
/-! ### caps_of -/
theorem sc_caps_of : FnScope ["line", "at", "row"] ["line"] (defScope (top 16)) := ⟨rfl, rfl, rfl, by decide +kernel, rfl, by decide +kernel, by decide +kernel⟩
noncomputable def d_caps_of : DS := (dRet (dLc (iEnu (dConsX (dVar 0) dNil)) (gTupZ (gAnd (gSet 1) (gAnd (gSet 2) gNon))) dYes (dFn fMin (dConsX (dBin oIx (dVar 2) (dLit (.int 1))) (dConsX (dBin oSub (dBin oSub (dFn fLen (dConsX (dVar 0) dNil)) (dLit (.int 1))) (dVar 1)) dNil))) [1, 2]))
noncomputable def F_caps_of : PF := mkFn 3 d_caps_of
theorem b_caps_of (g : Gm mg t_LETTERS t_MOST_FOLK t_MOST_LETS)  {f : Addr} (cdv : Value) (A : Around) (outer : List Env) (s : Shared) (H : Hp) (E : XK) (hr : Room 0 (A.deeper (envOfC "caps_of" (defScope (top 16)) s.heap.objs.size f cdv))) :
    ZSs (cxOf CX0 P w K mg base ["line", "at", "row"] "caps_of" (defScope (top 16)) f cdv A outer s H E).nox [] W0 (defBody (top 16)) d_caps_of :=
  (zss_one (zs_ret (ze_lc (own := [("at", 1), ("row", 2)]) rfl sc_caps_of.nd (zi_enu (by rfl) g.z_enumerate (zx_cons (zv 0) zx_nil)) (blkOk_by (N := ["line", "at", "row"]) (sc := defScope (top 16)) (by decide +kernel)) (by decide) (fun _ _ _ _ _ => (zg_tup rfl (zgs_cons (zg 1 sc_caps_of.nd) (zgs_cons (zg 2 sc_caps_of.nd) zgs_nil)))) (fun _ _ _ _ _ => zts_nil) (fun _ _ _ _ _ => (ze_callB (cz_min (by rfl)) (by rfl) g.z_min (by decide +kernel) (zx_cons (ze_ix (zv 2) ze_int) (zx_cons (ze_bin oz_sub (ze_bin oz_sub (ze_callB cz_len (by rfl) g.z_len (by decide +kernel) (zx_cons (zv 0) zx_nil)) ze_int) (zv 1)) zx_nil)))))))
theorem ok_caps_of (g : Gm mg t_LETTERS t_MOST_FOLK t_MOST_LETS)  {f : Addr} {fd : FuncData} (F : Fun K "caps_of" "caps_of" (top 16) f fd) : FnOk P w K mg base CX0 1 f fd ["line"] (spZ ⟨K, mg, []⟩ 1 F_caps_of) :=
  fn_ok F sc_caps_of fun cdv A outer s H E hr => b_caps_of g  cdv A outer s H E hr
theorem f_caps_of (g : Gm mg t_LETTERS t_MOST_FOLK t_MOST_LETS)  {f : Addr} {fd : FuncData} (F : Fun K "caps_of" "caps_of" (top 16) f fd) (B : Binds K fd ["line"] []) (m : mg "caps_of" = some (.ref f)) : FnZ P w K mg base [] "caps_of" 1 1 F_caps_of :=
  ⟨f, fd, ["line"], rfl, ok_caps_of g  F, m, F.kp, B⟩
/-! ### product -/
theorem sc_product : FnScope ["numbers", "found", "number"] ["numbers"] (defScope (top 17)) := ⟨rfl, rfl, rfl, by decide +kernel, rfl, by decide +kernel, by decide +kernel⟩
noncomputable def d_product : DS := (dSeq (dSet 1 (dLit (.int 1)))
    (dSeq (dFor (iAny (dVar 0)) (gSet 2) (dAugP 1 iMulG (dVar 2)))
    (dRet (dVar 1))))
noncomputable def F_product : PF := mkFn 3 d_product
theorem b_product (g : Gm mg t_LETTERS t_MOST_FOLK t_MOST_LETS)  {f : Addr} (cdv : Value) (A : Around) (outer : List Env) (s : Shared) (H : Hp) (E : XK) (hr : Room 0 (A.deeper (envOfC "product" (defScope (top 17)) s.heap.objs.size f cdv))) :
    ZSs (cxOf CX0 P w K mg base ["numbers", "found", "number"] "product" (defScope (top 17)) f cdv A outer s H E).nox [] W0 (defBody (top 17)) d_product :=
  (zss_cons (zset 1 sc_product.nd ze_int)
    (zss_cons (zs_for PassesOwn.never rfl (zi_any (zv 0)) (zg 2 sc_product.nd) (zss_one (zs_augP (i := 1) sc_product.nd rfl (by first | exact Or.inl rfl | exact Or.inr rfl) (zv 2) ipp_mulG)))
    (zss_one (zs_ret (zv 1)))))
theorem ok_product (g : Gm mg t_LETTERS t_MOST_FOLK t_MOST_LETS)  {f : Addr} {fd : FuncData} (F : Fun K "product" "product" (top 17) f fd) : FnOk P w K mg base CX0 1 f fd ["numbers"] (spZ ⟨K, mg, []⟩ 1 F_product) :=
  fn_ok F sc_product fun cdv A outer s H E hr => b_product g  cdv A outer s H E hr
theorem f_product (g : Gm mg t_LETTERS t_MOST_FOLK t_MOST_LETS)  {f : Addr} {fd : FuncData} (F : Fun K "product" "product" (top 17) f fd) (B : Binds K fd ["numbers"] []) (m : mg "product" = some (.ref f)) : FnZ P w K mg base [] "product" 1 1 F_product :=
  ⟨f, fd, ["numbers"], rfl, ok_product g  F, m, F.kp, B⟩
/-! ### how_many -/
theorem sc_how_many : FnScope ["line", "cap"] ["line"] (defScope (top 18)) := ⟨rfl, rfl, rfl, by decide +kernel, rfl, by decide +kernel, by decide +kernel⟩
noncomputable def d_how_many : DS := (dSeq (dDrop (dCall 1 F_need_line (dCons (dVar 0) dNil)))
    (dRet (dCall 1 F_product (dCons (dLc (iAny (dCall 1 F_caps_of (dCons (dVar 0) dNil))) (gSet 1) dYes (dBin oAdd (dVar 1) (dLit (.int 1))) [1]) dNil))))
noncomputable def F_how_many : PF := mkFn 2 d_how_many
theorem b_how_many (g : Gm mg t_LETTERS t_MOST_FOLK t_MOST_LETS) (h_need_line : FnZ P w K mg base [] "need_line" 1 4 F_need_line) (h_product : FnZ P w K mg base [] "product" 1 1 F_product) (h_caps_of : FnZ P w K mg base [] "caps_of" 1 1 F_caps_of) {f : Addr} (cdv : Value) (A : Around) (outer : List Env) (s : Shared) (H : Hp) (E : XK) (hr : Room 4 (A.deeper (envOfC "how_many" (defScope (top 18)) s.heap.objs.size f cdv))) :
    ZSs (cxOf CX0 P w K mg base ["line", "cap"] "how_many" (defScope (top 18)) f cdv A outer s H E).nox [] W0 (defBody (top 18)) d_how_many :=
  (zss_cons (zs_expr (ze_call h_need_line (hr.mono (by omega)) (by rfl) (za_cons (zv 0) za_nil)))
    (zss_one (zs_ret (ze_call h_product (hr.mono (by omega)) (by rfl) (za_cons (ze_lc (own := [("cap", 1)]) rfl sc_how_many.nd (zi_any (ze_call h_caps_of (hr.mono (by omega)) (by rfl) (za_cons (zv 0) za_nil))) (blkOk_by (N := ["line", "cap"]) (sc := defScope (top 18)) (by decide +kernel)) (by decide) (fun _ _ _ _ _ => (zg 1 sc_how_many.nd)) (fun _ _ _ _ _ => zts_nil) (fun _ _ _ _ _ => (ze_bin oz_add (zv 1) ze_int))) za_nil)))))
theorem ok_how_many (g : Gm mg t_LETTERS t_MOST_FOLK t_MOST_LETS) (h_need_line : FnZ P w K mg base [] "need_line" 1 4 F_need_line) (h_product : FnZ P w K mg base [] "product" 1 1 F_product) (h_caps_of : FnZ P w K mg base [] "caps_of" 1 1 F_caps_of) {f : Addr} {fd : FuncData} (F : Fun K "how_many" "how_many" (top 18) f fd) : FnOk P w K mg base CX0 5 f fd ["line"] (spZ ⟨K, mg, []⟩ 1 F_how_many) :=
  fn_ok F sc_how_many fun cdv A outer s H E hr => b_how_many g h_need_line h_product h_caps_of cdv A outer s H E hr
theorem f_how_many (g : Gm mg t_LETTERS t_MOST_FOLK t_MOST_LETS) (h_need_line : FnZ P w K mg base [] "need_line" 1 4 F_need_line) (h_product : FnZ P w K mg base [] "product" 1 1 F_product) (h_caps_of : FnZ P w K mg base [] "caps_of" 1 1 F_caps_of) {f : Addr} {fd : FuncData} (F : Fun K "how_many" "how_many" (top 18) f fd) (B : Binds K fd ["line"] []) (m : mg "how_many" = some (.ref f)) : FnZ P w K mg base [] "how_many" 1 5 F_how_many :=
  ⟨f, fd, ["line"], rfl, ok_how_many g h_need_line h_product h_caps_of F, m, F.kp, B⟩
/-! ### ways_at -/
theorem sc_ways_at : FnScope ["caps", "at", "first", "ways", "place", "more", "spot", "many", "ahead", "cap"] ["caps", "at", "first"] (defScope (top 19)) := ⟨rfl, rfl, rfl, by decide +kernel, rfl, by decide +kernel, by decide +kernel⟩
noncomputable def d_ways_at : DS := (dSeq (dSet 3 (dDc (iRan1 (dCons (dBin oAdd (dBin oIx (dVar 0) (dVar 1)) (dLit (.int 1))) dNil)) (gSet 7) dYes (dBin oAdd (dVar 7) (dLit (.int 1))) (dCall 1 F_product (dCons (dLc (iAny (dSl (dVar 0) (dPart (dBin oAdd (dVar 1) (dLit (.int 1)))) dNo)) (gSet 9) dYes (dBin oAdd (dVar 9) (dLit (.int 1))) [9]) dNil)) [7]))
    (dSeq (dFor (iRan3 (dCons (dBin oSub (dVar 1) (dLit (.int 1))) (dCons (dBin oSub (dVar 2) (dLit (.int 1))) (dCons (dUn oNeg (dLit (.int 1))) dNil)))) (gSet 4) (dSeq (dSet 5 dDnew)
    (dSeq (dLock 3 (dFor (iItm 3) (gTupZ (gAnd (gSet 6) (gAnd (gSet 7) gNon))) (dSeq (dSet 8 (dFn fMin (dConsX (dVar 6) (dConsX (dBin oAdd (dBin oIx (dVar 0) (dVar 4)) (dLit (.int 1))) dNil))))
    (dSeq (dDput (dBin oAdd (dDget2 (dVar 5) (dBin oAdd (dVar 6) (dLit (.int 1))) (dLit (.int 0))) (dBin oMulG (dVar 7) (dVar 8))) (dVar 5) (dBin oAdd (dVar 6) (dLit (.int 1))))
    (dDput (dBin oAdd (dDget2 (dVar 5) (dVar 6) (dLit (.int 0))) (dBin oMulG (dVar 7) (dBin oSub (dBin oAdd (dBin oIx (dVar 0) (dVar 4)) (dLit (.int 1))) (dVar 8)))) (dVar 5) (dVar 6))))))
    (dSet 3 (dVar 5)))))
    (dRet (dVar 3))))
noncomputable def F_ways_at : PF := mkFn 10 d_ways_at
theorem b_ways_at (g : Gm mg t_LETTERS t_MOST_FOLK t_MOST_LETS) (h_product : FnZ P w K mg base [] "product" 1 1 F_product) {f : Addr} (cdv : Value) (A : Around) (outer : List Env) (s : Shared) (H : Hp) (E : XK) (hr : Room 1 (A.deeper (envOfC "ways_at" (defScope (top 19)) s.heap.objs.size f cdv))) :
    ZSs (cxOf CX0 P w K mg base ["caps", "at", "first", "ways", "place", "more", "spot", "many", "ahead", "cap"] "ways_at" (defScope (top 19)) f cdv A outer s H E).nox [] W0 (defBody (top 19)) d_ways_at :=
  (zss_cons (zs_setDc (i := 3) (own := [("many", 7)]) rfl sc_ways_at.nd rfl rfl (sw_trueD rfl rfl rfl rfl) (zi_range1 (by rfl) g.z_range (za_cons (ze_bin oz_add (ze_ix (zv 0) (zv 1)) ze_int) za_nil)) (blkOk_by (N := ["caps", "at", "first", "ways", "place", "more", "spot", "many", "ahead", "cap"]) (sc := defScope (top 19)) (by decide +kernel)) (by decide) (fun _ _ _ _ _ => (zg 7 sc_ways_at.nd)) (fun _ _ _ _ _ => zts_nil) (fun _ _ _ _ _ => (ze_bin oz_add (zv 7) ze_int)) (fun _ _ _ _ _ => (ze_call h_product (hr.mono (by omega)) (by rfl) (za_cons (ze_lc (own := [("cap", 9)]) rfl sc_ways_at.nd (zi_any (ze_sl (zv 0) (zo_some (ze_bin oz_add (zv 1) ze_int)) zo_none)) (blkOk_by (by rfl)) (by decide) (fun _ _ _ _ _ => (zg 9 sc_ways_at.nd)) (fun _ _ _ _ _ => zts_nil) (fun _ _ _ _ _ => (ze_bin oz_add (zv 9) ze_int))) za_nil))))
    (zss_cons (zs_for PassesOwn.never rfl (zi_range3 (by rfl) g.z_range (za_cons (ze_bin oz_sub (zv 1) ze_int) (za_cons (ze_bin oz_sub (zv 2) ze_int) (za_cons (ze_un oz_neg ze_int) za_nil)))) (zg 4 sc_ways_at.nd) (zss_cons (zset 5 sc_ways_at.nd ze_dnew)
    (zss_cons (zs_lock (i := 3) (zs_for PassesOwn.never rfl (zi_items (i := 3)) (zg_tup rfl (zgs_cons (zg 6 sc_ways_at.nd) (zgs_cons (zg 7 sc_ways_at.nd) zgs_nil))) (zss_cons (zset 8 sc_ways_at.nd (ze_callB (cz_min (by rfl)) (by rfl) g.z_min (by decide +kernel) (zx_cons (zv 6) (zx_cons (ze_bin oz_add (ze_ix (zv 0) (zv 4)) ze_int) zx_nil))))
    (zss_cons (zs_dput (hu1 hr) (ze_bin oz_add (ze_dget2 (hu1 hr) (zv 5) (ze_bin oz_add (zv 6) ze_int) ze_int) (ze_bin oz_mulG (zv 7) (zv 8))) (zv 5) (ze_bin oz_add (zv 6) ze_int))
    (zss_one (zs_dput (hu1 hr) (ze_bin oz_add (ze_dget2 (hu1 hr) (zv 5) (zv 6) ze_int) (ze_bin oz_mulG (zv 7) (ze_bin oz_sub (ze_bin oz_add (ze_ix (zv 0) (zv 4)) ze_int) (zv 8)))) (zv 5) (zv 6)))))))
    (zss_one (zset 3 sc_ways_at.nd (zv 5))))))
    (zss_one (zs_ret (zv 3)))))
theorem ok_ways_at (g : Gm mg t_LETTERS t_MOST_FOLK t_MOST_LETS) (h_product : FnZ P w K mg base [] "product" 1 1 F_product) {f : Addr} {fd : FuncData} (F : Fun K "ways_at" "ways_at" (top 19) f fd) : FnOk P w K mg base CX0 2 f fd ["caps", "at", "first"] (spZ ⟨K, mg, []⟩ 3 F_ways_at) :=
  fn_ok F sc_ways_at fun cdv A outer s H E hr => b_ways_at g h_product cdv A outer s H E hr
theorem f_ways_at (g : Gm mg t_LETTERS t_MOST_FOLK t_MOST_LETS) (h_product : FnZ P w K mg base [] "product" 1 1 F_product) {f : Addr} {fd : FuncData} (F : Fun K "ways_at" "ways_at" (top 19) f fd) (B : Binds K fd ["caps", "at", "first"] []) (m : mg "ways_at" = some (.ref f)) : FnZ P w K mg base [] "ways_at" 3 2 F_ways_at :=
  ⟨f, fd, ["caps", "at", "first"], rfl, ok_ways_at g h_product F, m, F.kp, B⟩
/-! ### at_places -/
theorem sc_at_places : FnScope ["line", "name", "ways", "place"] ["line", "name"] (defScope (top 20)) := ⟨rfl, rfl, rfl, by decide +kernel, rfl, by decide +kernel, by decide +kernel⟩
noncomputable def d_at_places : DS := (dSeq (dDrop (dCall 2 F_need_name (dCons (dVar 0) (dCons (dVar 1) dNil))))
    (dSeq (dSet 2 (dCall 3 F_ways_at (dCons (dCall 1 F_caps_of (dCons (dVar 0) dNil)) (dCons (dMeth2 mIndex (dCall 1 F_names_of (dCons (dVar 0) dNil)) (dCons (dVar 1) dNil)) (dCons (dLit (.int 0)) dNil)))))
    (dRet (dLc (iRan2 (dCons (dLit (.int 1)) (dCons (dBin oAdd (dFn fLen (dConsX (dVar 0) dNil)) (dLit (.int 1))) dNil))) (gSet 3) dYes (dDget2 (dVar 2) (dVar 3) (dLit (.int 0))) [3]))))
noncomputable def F_at_places : PF := mkFn 4 d_at_places
theorem b_at_places (g : Gm mg t_LETTERS t_MOST_FOLK t_MOST_LETS) (h_need_name : FnZ P w K mg base [] "need_name" 2 5 F_need_name) (h_ways_at : FnZ P w K mg base [] "ways_at" 3 2 F_ways_at) (h_caps_of : FnZ P w K mg base [] "caps_of" 1 1 F_caps_of) (h_names_of : FnZ P w K mg base [] "names_of" 1 1 F_names_of) {f : Addr} (cdv : Value) (A : Around) (outer : List Env) (s : Shared) (H : Hp) (E : XK) (hr : Room 5 (A.deeper (envOfC "at_places" (defScope (top 20)) s.heap.objs.size f cdv))) :
    ZSs (cxOf CX0 P w K mg base ["line", "name", "ways", "place"] "at_places" (defScope (top 20)) f cdv A outer s H E).nox [] W0 (defBody (top 20)) d_at_places :=
  (zss_cons (zs_expr (ze_call h_need_name (hr.mono (by omega)) (by rfl) (za_cons (zv 0) (za_cons (zv 1) za_nil))))
    (zss_cons (zset 2 sc_at_places.nd (ze_call h_ways_at (hr.mono (by omega)) (by rfl) (za_cons (ze_call h_caps_of (hr.mono (by omega)) (by rfl) (za_cons (zv 0) za_nil)) (za_cons (ze_meth2 PySem.F.slot_list_index PySem.F.type_list_index PySem.F.slot_tuple_index PySem.F.type_tuple_index (mz_index_list (hu65 hr)) (mz_index_tuple (hu65 hr)) (ze_call h_names_of (hr.mono (by omega)) (by rfl) (za_cons (zv 0) za_nil)) (za_cons (zv 1) za_nil)) (za_cons ze_int za_nil)))))
    (zss_one (zs_ret (ze_lc (own := [("place", 3)]) rfl sc_at_places.nd (zi_range2 (by rfl) g.z_range (za_cons ze_int (za_cons (ze_bin oz_add (ze_callB cz_len (by rfl) g.z_len (by decide +kernel) (zx_cons (zv 0) zx_nil)) ze_int) za_nil))) (blkOk_by (N := ["line", "name", "ways", "place"]) (sc := defScope (top 20)) (by decide +kernel)) (by decide) (fun _ _ _ _ _ => (zg 3 sc_at_places.nd)) (fun _ _ _ _ _ => zts_nil) (fun _ _ _ _ _ => (ze_dget2 (hu1 hr) (zv 2) (zv 3) ze_int)))))))
theorem ok_at_places (g : Gm mg t_LETTERS t_MOST_FOLK t_MOST_LETS) (h_need_name : FnZ P w K mg base [] "need_name" 2 5 F_need_name) (h_ways_at : FnZ P w K mg base [] "ways_at" 3 2 F_ways_at) (h_caps_of : FnZ P w K mg base [] "caps_of" 1 1 F_caps_of) (h_names_of : FnZ P w K mg base [] "names_of" 1 1 F_names_of) {f : Addr} {fd : FuncData} (F : Fun K "at_places" "at_places" (top 20) f fd) : FnOk P w K mg base CX0 6 f fd ["line", "name"] (spZ ⟨K, mg, []⟩ 2 F_at_places) :=
  fn_ok F sc_at_places fun cdv A outer s H E hr => b_at_places g h_need_name h_ways_at h_caps_of h_names_of cdv A outer s H E hr
theorem f_at_places (g : Gm mg t_LETTERS t_MOST_FOLK t_MOST_LETS) (h_need_name : FnZ P w K mg base [] "need_name" 2 5 F_need_name) (h_ways_at : FnZ P w K mg base [] "ways_at" 3 2 F_ways_at) (h_caps_of : FnZ P w K mg base [] "caps_of" 1 1 F_caps_of) (h_names_of : FnZ P w K mg base [] "names_of" 1 1 F_names_of) {f : Addr} {fd : FuncData} (F : Fun K "at_places" "at_places" (top 20) f fd) (B : Binds K fd ["line", "name"] []) (m : mg "at_places" = some (.ref f)) : FnZ P w K mg base [] "at_places" 2 6 F_at_places :=
  ⟨f, fd, ["line", "name"], rfl, ok_at_places g h_need_name h_ways_at h_caps_of h_names_of F, m, F.kp, B⟩
/-! ### ahead_in -/
theorem sc_ahead_in : FnScope ["line", "one", "other", "caps", "first", "second", "ways", "passing", "spot", "many", "cap"] ["line", "one", "other"] (defScope (top 21)) := ⟨rfl, rfl, rfl, by decide +kernel, rfl, by decide +kernel, by decide +kernel⟩
noncomputable def d_ahead_in : DS := (dSeq (dDrop (dCall 2 F_need_name (dCons (dVar 0) (dCons (dVar 1) dNil))))
    (dSeq (dIfS (dOrT (dNotT (dTst (dIsi [.str] (dVar 2)))) (dOrT (dTst (dBin oNotIn (dVar 2) (dCall 1 F_names_of (dCons (dVar 0) dNil)))) (dTst (dBin oEq (dVar 2) (dVar 1))))) dNever dSkip)
    (dSeq (dSet 3 (dCall 1 F_caps_of (dCons (dVar 0) dNil)))
    (dSeq (dAsg (gUnlZ (gAnd (gSet 4) (gAnd (gSet 5) gNon))) (dFn fSortedA (dConsX (dLst (dCons (dMeth2 mIndex (dCall 1 F_names_of (dCons (dVar 0) dNil)) (dCons (dVar 1) dNil)) (dCons (dMeth2 mIndex (dCall 1 F_names_of (dCons (dVar 0) dNil)) (dCons (dVar 2) dNil)) dNil))) dNil)))
    (dSeq (dSet 6 (dCall 3 F_ways_at (dCons (dVar 3) (dCons (dVar 5) (dCons (dBin oAdd (dVar 4) (dLit (.int 1))) dNil)))))
    (dSeq (dSet 7 (dFn fSum (dConsX (dLockE 6 (dLc (iItm 6) (gTupZ (gAnd (gSet 8) (gAnd (gSet 9) gNon))) dYes (dBin oMulG (dVar 9) (dFn fMax (dConsX (dLit (.int 0)) (dConsX (dBin oSub (dBin oAdd (dBin oIx (dVar 3) (dVar 4)) (dLit (.int 1))) (dVar 8)) dNil)))) [8, 9])) dNil)))
    (dSeq (dAugP 7 iMulG (dCall 1 F_product (dCons (dLc (iAny (dSl (dVar 3) dNo (dPart (dVar 4)))) (gSet 10) dYes (dBin oAdd (dVar 10) (dLit (.int 1))) [10]) dNil)))
    (dSeq (dIfS (dTst (dBin oEq (dBin oIx (dCall 1 F_names_of (dCons (dVar 0) dNil)) (dVar 5)) (dVar 1))) (dRet (dVar 7)) dSkip)
    (dRet (dBin oSub (dCall 1 F_product (dCons (dLc (iAny (dVar 3)) (gSet 10) dYes (dBin oAdd (dVar 10) (dLit (.int 1))) [10]) dNil)) (dVar 7)))))))))))
noncomputable def F_ahead_in : PF := mkFn 11 d_ahead_in
theorem b_ahead_in (g : Gm mg t_LETTERS t_MOST_FOLK t_MOST_LETS) (h_need_name : FnZ P w K mg base [] "need_name" 2 5 F_need_name) (h_caps_of : FnZ P w K mg base [] "caps_of" 1 1 F_caps_of) (h_ways_at : FnZ P w K mg base [] "ways_at" 3 2 F_ways_at) (h_product : FnZ P w K mg base [] "product" 1 1 F_product) (h_names_of : FnZ P w K mg base [] "names_of" 1 1 F_names_of) {f : Addr} (cdv : Value) (A : Around) (outer : List Env) (s : Shared) (H : Hp) (E : XK) (hr : Room 5 (A.deeper (envOfC "ahead_in" (defScope (top 21)) s.heap.objs.size f cdv))) :
    ZSs (cxOf CX0 P w K mg base ["line", "one", "other", "caps", "first", "second", "ways", "passing", "spot", "many", "cap"] "ahead_in" (defScope (top 21)) f cdv A outer s H E).nox [] W0 (defBody (top 21)) d_ahead_in :=
  (zss_cons (zs_expr (ze_call h_need_name (hr.mono (by omega)) (by rfl) (za_cons (zv 0) (za_cons (zv 1) za_nil))))
    (zss_cons (zs_if (zt_w (zw_or (zt_not (zt_val (ze_isi (t := .str) (zv 2) (by rfl) g.z_isinstance (by rfl) g.z_str (by decide +kernel)))) (zw_or (zt_cmp (oz_notin (hu65 hr)) (zv 2) (ze_call h_names_of (hr.mono (by omega)) (by rfl) (za_cons (zv 0) za_nil)) (by first | exact nomark _ | with_unfolding_all rfl)) (zw_or1 (zt_cmp (oz_eq (hu64 hr)) (zv 2) (zv 1) (by first | exact nomark _ | with_unfolding_all rfl)))))) (zss_one zs_never) zss_nil)
    (zss_cons (zset 3 sc_ahead_in.nd (ze_call h_caps_of (hr.mono (by omega)) (by rfl) (za_cons (zv 0) za_nil)))
    (zss_cons (zs_unl rfl (zgs_cons (zg 4 sc_ahead_in.nd) (zgs_cons (zg 5 sc_ahead_in.nd) zgs_nil)) (ze_callB cz_sortedA (by rfl) g.z_sorted (by decide +kernel) (zx_cons (ze_lst (za_cons (ze_meth2 PySem.F.slot_list_index PySem.F.type_list_index PySem.F.slot_tuple_index PySem.F.type_tuple_index (mz_index_list (hu65 hr)) (mz_index_tuple (hu65 hr)) (ze_call h_names_of (hr.mono (by omega)) (by rfl) (za_cons (zv 0) za_nil)) (za_cons (zv 1) za_nil)) (za_cons (ze_meth2 PySem.F.slot_list_index PySem.F.type_list_index PySem.F.slot_tuple_index PySem.F.type_tuple_index (mz_index_list (hu65 hr)) (mz_index_tuple (hu65 hr)) (ze_call h_names_of (hr.mono (by omega)) (by rfl) (za_cons (zv 0) za_nil)) (za_cons (zv 2) za_nil)) za_nil))) zx_nil)))
    (zss_cons (zset 6 sc_ahead_in.nd (ze_call h_ways_at (hr.mono (by omega)) (by rfl) (za_cons (zv 3) (za_cons (zv 5) (za_cons (ze_bin oz_add (zv 4) ze_int) za_nil)))))
    (zss_cons (zset 7 sc_ahead_in.nd (ze_callB (cz_sum (by rfl)) (by rfl) g.z_sum (by decide +kernel) (zx_cons (ze_lock (i := 6) (ze_lc (own := [("spot", 8), ("many", 9)]) rfl sc_ahead_in.nd (zi_items (i := 6)) (blkOk_by (N := ["line", "one", "other", "caps", "first", "second", "ways", "passing", "spot", "many", "cap"]) (sc := defScope (top 21)) (by decide +kernel)) (by decide) (fun _ _ _ _ _ => (zg_tup rfl (zgs_cons (zg 8 sc_ahead_in.nd) (zgs_cons (zg 9 sc_ahead_in.nd) zgs_nil)))) (fun _ _ _ _ _ => zts_nil) (fun _ _ _ _ _ => (ze_bin oz_mulG (zv 9) (ze_callB (cz_max (by rfl)) (by rfl) g.z_max (by decide +kernel) (zx_cons ze_int (zx_cons (ze_bin oz_sub (ze_bin oz_add (ze_ix (zv 3) (zv 4)) ze_int) (zv 8)) zx_nil))))))) zx_nil)))
    (zss_cons (zs_augP (i := 7) sc_ahead_in.nd rfl (by first | exact Or.inl rfl | exact Or.inr rfl) (ze_call h_product (hr.mono (by omega)) (by rfl) (za_cons (ze_lc (own := [("cap", 10)]) rfl sc_ahead_in.nd (zi_any (ze_sl (zv 3) zo_none (zo_some (zv 4)))) (blkOk_by (N := ["line", "one", "other", "caps", "first", "second", "ways", "passing", "spot", "many", "cap"]) (sc := defScope (top 21)) (by decide +kernel)) (by decide) (fun _ _ _ _ _ => (zg 10 sc_ahead_in.nd)) (fun _ _ _ _ _ => zts_nil) (fun _ _ _ _ _ => (ze_bin oz_add (zv 10) ze_int))) za_nil)) ipp_mulG)
    (zss_cons (zs_if (zt_cmp (oz_eq (hu64 hr)) (ze_ix (ze_call h_names_of (hr.mono (by omega)) (by rfl) (za_cons (zv 0) za_nil)) (zv 5)) (zv 1) (by first | exact nomark _ | with_unfolding_all rfl)) (zss_one (zs_ret (zv 7))) zss_nil)
    (zss_one (zs_ret (ze_bin oz_sub (ze_call h_product (hr.mono (by omega)) (by rfl) (za_cons (ze_lc (own := [("cap", 10)]) rfl sc_ahead_in.nd (zi_any (zv 3)) (blkOk_by (N := ["line", "one", "other", "caps", "first", "second", "ways", "passing", "spot", "many", "cap"]) (sc := defScope (top 21)) (by decide +kernel)) (by decide) (fun _ _ _ _ _ => (zg 10 sc_ahead_in.nd)) (fun _ _ _ _ _ => zts_nil) (fun _ _ _ _ _ => (ze_bin oz_add (zv 10) ze_int))) za_nil)) (zv 7))))))))))))
theorem ok_ahead_in (g : Gm mg t_LETTERS t_MOST_FOLK t_MOST_LETS) (h_need_name : FnZ P w K mg base [] "need_name" 2 5 F_need_name) (h_caps_of : FnZ P w K mg base [] "caps_of" 1 1 F_caps_of) (h_ways_at : FnZ P w K mg base [] "ways_at" 3 2 F_ways_at) (h_product : FnZ P w K mg base [] "product" 1 1 F_product) (h_names_of : FnZ P w K mg base [] "names_of" 1 1 F_names_of) {f : Addr} {fd : FuncData} (F : Fun K "ahead_in" "ahead_in" (top 21) f fd) : FnOk P w K mg base CX0 6 f fd ["line", "one", "other"] (spZ ⟨K, mg, []⟩ 3 F_ahead_in) :=
  fn_ok F sc_ahead_in fun cdv A outer s H E hr => b_ahead_in g h_need_name h_caps_of h_ways_at h_product h_names_of cdv A outer s H E hr
theorem f_ahead_in (g : Gm mg t_LETTERS t_MOST_FOLK t_MOST_LETS) (h_need_name : FnZ P w K mg base [] "need_name" 2 5 F_need_name) (h_caps_of : FnZ P w K mg base [] "caps_of" 1 1 F_caps_of) (h_ways_at : FnZ P w K mg base [] "ways_at" 3 2 F_ways_at) (h_product : FnZ P w K mg base [] "product" 1 1 F_product) (h_names_of : FnZ P w K mg base [] "names_of" 1 1 F_names_of) {f : Addr} {fd : FuncData} (F : Fun K "ahead_in" "ahead_in" (top 21) f fd) (B : Binds K fd ["line", "one", "other"] []) (m : mg "ahead_in" = some (.ref f)) : FnZ P w K mg base [] "ahead_in" 3 6 F_ahead_in :=
  ⟨f, fd, ["line", "one", "other"], rfl, ok_ahead_in g h_need_name h_caps_of h_ways_at h_product h_names_of F, m, F.kp, B⟩
/-! ### order_by -/
theorem sc_order_by : FnScope ["names", "passed", "found", "at"] ["names", "passed"] (defScope (top 22)) := ⟨rfl, rfl, rfl, by decide +kernel, rfl, by decide +kernel, by decide +kernel⟩
noncomputable def d_order_by : DS := (dSeq (dSet 2 (dLst dNil))
    (dSeq (dFor (iRan3 (dCons (dBin oSub (dFn fLen (dConsX (dVar 0) dNil)) (dLit (.int 1))) (dCons (dUn oNeg (dLit (.int 1))) (dCons (dUn oNeg (dLit (.int 1))) dNil)))) (gSet 3) (dDrop (dMeth .list mInsert (dVar 2) (dCons (dBin oIx (dVar 1) (dVar 3)) (dCons (dBin oIx (dVar 0) (dVar 3)) dNil)))))
    (dRet (dFn fTuple (dConsX (dVar 2) dNil)))))
noncomputable def F_order_by : PF := mkFn 4 d_order_by
theorem b_order_by (g : Gm mg t_LETTERS t_MOST_FOLK t_MOST_LETS)  {f : Addr} (cdv : Value) (A : Around) (outer : List Env) (s : Shared) (H : Hp) (E : XK) (hr : Room 0 (A.deeper (envOfC "order_by" (defScope (top 22)) s.heap.objs.size f cdv))) :
    ZSs (cxOf CX0 P w K mg base ["names", "passed", "found", "at"] "order_by" (defScope (top 22)) f cdv A outer s H E).nox [] W0 (defBody (top 22)) d_order_by :=
  (zss_cons (zset 2 sc_order_by.nd (ze_lst za_nil))
    (zss_cons (zs_for PassesOwn.never rfl (zi_range3 (by rfl) g.z_range (za_cons (ze_bin oz_sub (ze_callB cz_len (by rfl) g.z_len (by decide +kernel) (zx_cons (zv 0) zx_nil)) ze_int) (za_cons (ze_un oz_neg ze_int) (za_cons (ze_un oz_neg ze_int) za_nil)))) (zg 3 sc_order_by.nd) (zss_one (zs_expr (ze_meth (B := .list) PySem.F.plainAttrs_list PySem.F.slot_list_insert PySem.F.type_list_insert mz_insert rfl (zv 2) (za_cons (ze_ix (zv 1) (zv 3)) (za_cons (ze_ix (zv 0) (zv 3)) za_nil))))))
    (zss_one (zs_ret (ze_callTy cz_tuple (by rfl) g.z_tuple (by decide +kernel) (zx_cons (zv 2) zx_nil))))))
theorem ok_order_by (g : Gm mg t_LETTERS t_MOST_FOLK t_MOST_LETS)  {f : Addr} {fd : FuncData} (F : Fun K "order_by" "order_by" (top 22) f fd) : FnOk P w K mg base CX0 1 f fd ["names", "passed"] (spZ ⟨K, mg, []⟩ 2 F_order_by) :=
  fn_ok F sc_order_by fun cdv A outer s H E hr => b_order_by g  cdv A outer s H E hr
theorem f_order_by (g : Gm mg t_LETTERS t_MOST_FOLK t_MOST_LETS)  {f : Addr} {fd : FuncData} (F : Fun K "order_by" "order_by" (top 22) f fd) (B : Binds K fd ["names", "passed"] []) (m : mg "order_by" = some (.ref f)) : FnZ P w K mg base [] "order_by" 2 1 F_order_by :=
  ⟨f, fd, ["names", "passed"], rfl, ok_order_by g  F, m, F.kp, B⟩
/-! ### foremost -/
theorem sc_foremost : FnScope ["caps", "at", "passed", "stay", "place"] ["caps", "at"] (defScope (top 23)) := ⟨rfl, rfl, rfl, by decide +kernel, rfl, by decide +kernel, by decide +kernel⟩
noncomputable def d_foremost : DS := (dSeq (dSet 2 (dBin oMulG (dLst (dCons (dLit (.int 0)) dNil)) (dFn fLen (dConsX (dVar 0) dNil))))
    (dSeq (dSet 3 (dLit (.int 0)))
    (dSeq (dFor (iRan3 (dCons (dBin oSub (dVar 1) (dLit (.int 1))) (dCons (dUn oNeg (dLit (.int 1))) (dCons (dUn oNeg (dLit (.int 1))) dNil)))) (gSet 4) (dIfS (dTst (dBin oGe (dBin oIx (dVar 0) (dVar 4)) (dBin oAdd (dVar 3) (dLit (.int 1))))) (dStore (dBin oAdd (dVar 3) (dLit (.int 1))) (dVar 2) (dVar 4)) (dAugP 3 iAddP (dLit (.int 1)))))
    (dRet (dTup (dCons (dBin oAdd (dVar 3) (dLit (.int 1))) (dCons (dVar 2) dNil)))))))
noncomputable def F_foremost : PF := mkFn 5 d_foremost
theorem b_foremost (g : Gm mg t_LETTERS t_MOST_FOLK t_MOST_LETS)  {f : Addr} (cdv : Value) (A : Around) (outer : List Env) (s : Shared) (H : Hp) (E : XK) (hr : Room 0 (A.deeper (envOfC "foremost" (defScope (top 23)) s.heap.objs.size f cdv))) :
    ZSs (cxOf CX0 P w K mg base ["caps", "at", "passed", "stay", "place"] "foremost" (defScope (top 23)) f cdv A outer s H E).nox [] W0 (defBody (top 23)) d_foremost :=
  (zss_cons (zset 2 sc_foremost.nd (ze_bin oz_mulG (ze_lst (za_cons ze_int za_nil)) (ze_callB cz_len (by rfl) g.z_len (by decide +kernel) (zx_cons (zv 0) zx_nil))))
    (zss_cons (zset 3 sc_foremost.nd ze_int)
    (zss_cons (zs_for PassesOwn.never rfl (zi_range3 (by rfl) g.z_range (za_cons (ze_bin oz_sub (zv 1) ze_int) (za_cons (ze_un oz_neg ze_int) (za_cons (ze_un oz_neg ze_int) za_nil)))) (zg 4 sc_foremost.nd) (zss_one (zs_if (zt_cmp oz_ge (ze_ix (zv 0) (zv 4)) (ze_bin oz_add (zv 3) ze_int) (by first | exact nomark _ | with_unfolding_all rfl)) (zss_one (zs_store (ze_bin oz_add (zv 3) ze_int) (zv 2) (zv 4))) (zss_one (zs_augP (i := 3) sc_foremost.nd rfl (by first | exact Or.inl rfl | exact Or.inr rfl) ze_int ipp_add)))))
    (zss_one (zs_ret (ze_tup (za_cons (ze_bin oz_add (zv 3) ze_int) (za_cons (zv 2) za_nil))))))))
theorem ok_foremost (g : Gm mg t_LETTERS t_MOST_FOLK t_MOST_LETS)  {f : Addr} {fd : FuncData} (F : Fun K "foremost" "foremost" (top 23) f fd) : FnOk P w K mg base CX0 1 f fd ["caps", "at"] (spZ ⟨K, mg, []⟩ 2 F_foremost) :=
  fn_ok F sc_foremost fun cdv A outer s H E hr => b_foremost g  cdv A outer s H E hr
theorem f_foremost (g : Gm mg t_LETTERS t_MOST_FOLK t_MOST_LETS)  {f : Addr} {fd : FuncData} (F : Fun K "foremost" "foremost" (top 23) f fd) (B : Binds K fd ["caps", "at"] []) (m : mg "foremost" = some (.ref f)) : FnZ P w K mg base [] "foremost" 2 1 F_foremost :=
  ⟨f, fd, ["caps", "at"], rfl, ok_foremost g  F, m, F.kp, B⟩
/-! ### ends -/
theorem sc_ends : FnScope ["line", "name", "names", "caps", "at", "last"] ["line", "name"] (defScope (top 24)) := ⟨rfl, rfl, rfl, by decide +kernel, rfl, by decide +kernel, by decide +kernel⟩
noncomputable def d_ends : DS := (dSeq (dDrop (dCall 2 F_need_name (dCons (dVar 0) (dCons (dVar 1) dNil))))
    (dSeq (dPar 2 3 (dCons (dCall 1 F_names_of (dCons (dVar 0) dNil)) (dCons (dCall 1 F_caps_of (dCons (dVar 0) dNil)) dNil)))
    (dSeq (dSet 4 (dMeth2 mIndex (dVar 2) (dCons (dVar 1) dNil)))
    (dSeq (dSet 5 (dBin oMulG (dLst (dCons (dLit (.int 0)) dNil)) (dFn fLen (dConsX (dVar 2) dNil))))
    (dSeq (dStore (dBin oIx (dVar 3) (dVar 4)) (dVar 5) (dVar 4))
    (dRet (dTup (dCons (dCall 2 F_order_by (dCons (dVar 2) (dCons (dBin oIx (dCall 2 F_foremost (dCons (dVar 3) (dCons (dVar 4) dNil))) (dLit (.int 1))) dNil))) (dCons (dCall 2 F_order_by (dCons (dVar 2) (dCons (dVar 5) dNil))) dNil)))))))))
noncomputable def F_ends : PF := mkFn 6 d_ends
theorem b_ends (g : Gm mg t_LETTERS t_MOST_FOLK t_MOST_LETS) (h_need_name : FnZ P w K mg base [] "need_name" 2 5 F_need_name) (h_names_of : FnZ P w K mg base [] "names_of" 1 1 F_names_of) (h_caps_of : FnZ P w K mg base [] "caps_of" 1 1 F_caps_of) (h_order_by : FnZ P w K mg base [] "order_by" 2 1 F_order_by) (h_foremost : FnZ P w K mg base [] "foremost" 2 1 F_foremost) {f : Addr} (cdv : Value) (A : Around) (outer : List Env) (s : Shared) (H : Hp) (E : XK) (hr : Room 5 (A.deeper (envOfC "ends" (defScope (top 24)) s.heap.objs.size f cdv))) :
    ZSs (cxOf CX0 P w K mg base ["line", "name", "names", "caps", "at", "last"] "ends" (defScope (top 24)) f cdv A outer s H E).nox [] W0 (defBody (top 24)) d_ends :=
  (zss_cons (zs_expr (ze_call h_need_name (hr.mono (by omega)) (by rfl) (za_cons (zv 0) (za_cons (zv 1) za_nil))))
    (zss_cons (zs_par (i := 2) (j := 3) rfl sc_ends.nd rfl rfl (by decide) rfl rfl (za_cons (ze_call h_names_of (hr.mono (by omega)) (by rfl) (za_cons (zv 0) za_nil)) (za_cons (ze_call h_caps_of (hr.mono (by omega)) (by rfl) (za_cons (zv 0) za_nil)) za_nil)) (by with_unfolding_all rfl))
    (zss_cons (zset 4 sc_ends.nd (ze_meth2 PySem.F.slot_list_index PySem.F.type_list_index PySem.F.slot_tuple_index PySem.F.type_tuple_index (mz_index_list (hu65 hr)) (mz_index_tuple (hu65 hr)) (zv 2) (za_cons (zv 1) za_nil)))
    (zss_cons (zset 5 sc_ends.nd (ze_bin oz_mulG (ze_lst (za_cons ze_int za_nil)) (ze_callB cz_len (by rfl) g.z_len (by decide +kernel) (zx_cons (zv 2) zx_nil))))
    (zss_cons (zs_store (ze_ix (zv 3) (zv 4)) (zv 5) (zv 4))
    (zss_one (zs_ret (ze_tup (za_cons (ze_call h_order_by (hr.mono (by omega)) (by rfl) (za_cons (zv 2) (za_cons (ze_ix (ze_call h_foremost (hr.mono (by omega)) (by rfl) (za_cons (zv 3) (za_cons (zv 4) za_nil))) ze_int) za_nil))) (za_cons (ze_call h_order_by (hr.mono (by omega)) (by rfl) (za_cons (zv 2) (za_cons (zv 5) za_nil))) za_nil))))))))))
theorem ok_ends (g : Gm mg t_LETTERS t_MOST_FOLK t_MOST_LETS) (h_need_name : FnZ P w K mg base [] "need_name" 2 5 F_need_name) (h_names_of : FnZ P w K mg base [] "names_of" 1 1 F_names_of) (h_caps_of : FnZ P w K mg base [] "caps_of" 1 1 F_caps_of) (h_order_by : FnZ P w K mg base [] "order_by" 2 1 F_order_by) (h_foremost : FnZ P w K mg base [] "foremost" 2 1 F_foremost) {f : Addr} {fd : FuncData} (F : Fun K "ends" "ends" (top 24) f fd) : FnOk P w K mg base CX0 6 f fd ["line", "name"] (spZ ⟨K, mg, []⟩ 2 F_ends) :=
  fn_ok F sc_ends fun cdv A outer s H E hr => b_ends g h_need_name h_names_of h_caps_of h_order_by h_foremost cdv A outer s H E hr
theorem f_ends (g : Gm mg t_LETTERS t_MOST_FOLK t_MOST_LETS) (h_need_name : FnZ P w K mg base [] "need_name" 2 5 F_need_name) (h_names_of : FnZ P w K mg base [] "names_of" 1 1 F_names_of) (h_caps_of : FnZ P w K mg base [] "caps_of" 1 1 F_caps_of) (h_order_by : FnZ P w K mg base [] "order_by" 2 1 F_order_by) (h_foremost : FnZ P w K mg base [] "foremost" 2 1 F_foremost) {f : Addr} {fd : FuncData} (F : Fun K "ends" "ends" (top 24) f fd) (B : Binds K fd ["line", "name"] []) (m : mg "ends" = some (.ref f)) : FnZ P w K mg base [] "ends" 2 6 F_ends :=
  ⟨f, fd, ["line", "name"], rfl, ok_ends g h_need_name h_names_of h_caps_of h_order_by h_foremost F, m, F.kp, B⟩
/-! ### _law_deck -/
theorem sc__law_deck : FnScope ["cell", "turn"] ["cell", "turn"] (defScope (top 26)) := ⟨rfl, rfl, rfl, by decide +kernel, rfl, by decide +kernel, by decide +kernel⟩
noncomputable def d__law_deck : DS := (dSeq (dIfS (dTst (dBin oGe (dVar 0) (dBin oPow (dLit (.int 10)) (dLit (.int 18))))) (dRet (dLst (dCons (dBin oSub (dVar 0) (dBin oPow (dLit (.int 10)) (dLit (.int 18)))) (dCons (dBin oMod (dVar 0) (dLit (.int 2147483579))) (dCons (dVar 1) dNil))))) dSkip)
    (dRet (dLst (dCons (dLit (.int 0)) (dCons (dBin oMod (dVar 0) (dLit (.int 2147483579))) (dCons (dVar 1) dNil))))))
noncomputable def F__law_deck : PF := mkFn 2 d__law_deck
theorem b__law_deck (g : Gm mg t_LETTERS t_MOST_FOLK t_MOST_LETS)  {f : Addr} (cdv : Value) (A : Around) (outer : List Env) (s : Shared) (H : Hp) (E : XK) (hr : Room 0 (A.deeper (envOfC "_law_deck" (defScope (top 26)) s.heap.objs.size f cdv))) :
    ZSs (cxOf CX0 P w K mg base ["cell", "turn"] "_law_deck" (defScope (top 26)) f cdv A outer s H E).nox [] W0 (defBody (top 26)) d__law_deck :=
  (zss_cons (zs_if (zt_cmp oz_ge (zv 0) (ze_bin oz_pow ze_int ze_int) (by first | exact nomark _ | with_unfolding_all rfl)) (zss_one (zs_ret (ze_lst (za_cons (ze_bin oz_sub (zv 0) (ze_bin oz_pow ze_int ze_int)) (za_cons (ze_bin oz_mod (zv 0) ze_int) (za_cons (zv 1) za_nil)))))) zss_nil)
    (zss_one (zs_ret (ze_lst (za_cons ze_int (za_cons (ze_bin oz_mod (zv 0) ze_int) (za_cons (zv 1) za_nil)))))))
theorem ok__law_deck (g : Gm mg t_LETTERS t_MOST_FOLK t_MOST_LETS)  {f : Addr} {fd : FuncData} (F : Fun K "_law_deck" "_law_deck" (top 26) f fd) : FnOk P w K mg base CX0 1 f fd ["cell", "turn"] (spZ ⟨K, mg, []⟩ 2 F__law_deck) :=
  fn_ok F sc__law_deck fun cdv A outer s H E hr => b__law_deck g  cdv A outer s H E hr
theorem f__law_deck (g : Gm mg t_LETTERS t_MOST_FOLK t_MOST_LETS)  {f : Addr} {fd : FuncData} (F : Fun K "_law_deck" "_law_deck" (top 26) f fd) (B : Binds K fd ["cell", "turn"] []) (m : mg "_law_deck" = some (.ref f)) : FnZ P w K mg base [] "_law_deck" 2 1 F__law_deck :=
  ⟨f, fd, ["cell", "turn"], rfl, ok__law_deck g  F, m, F.kp, B⟩
/-! ### _law_pick -/
theorem sc__law_pick : FnScope ["deck", "size", "found", "number"] ["deck", "size"] (defScope (top 27)) := ⟨rfl, rfl, rfl, by decide +kernel, rfl, by decide +kernel, by decide +kernel⟩
noncomputable def d__law_pick : DS := (dSeq (dIfS (dTst (dBin oGt (dBin oIx (dVar 0) (dLit (.int 0))) (dLit (.int 1)))) (dSeq (dSet 2 (dBin oMod (dBin oIx (dVar 0) (dLit (.int 0))) (dVar 1)))
    (dSeq (dStore (dBin oFdiv (dBin oIx (dVar 0) (dLit (.int 0))) (dVar 1)) (dVar 0) (dLit (.int 0)))
    (dRet (dVar 2)))) dSkip)
    (dSeq (dStore (dBin oAdd (dBin oIx (dVar 0) (dLit (.int 2))) (dLit (.int 1))) (dVar 0) (dLit (.int 2)))
    (dSeq (dSet 3 (dBin oMod (dBin oPow (dBin oAdd (dBin oIx (dVar 0) (dLit (.int 1))) (dBin oMulG (dLit (.int 15485867)) (dBin oIx (dVar 0) (dLit (.int 2))))) (dLit (.int 5))) (dLit (.int 2147483647))))
    (dSeq (dSet 2 (dBin oFdiv (dBin oMod (dBin oPow (dBin oAdd (dVar 3) (dBin oMulG (dLit (.int 7919)) (dBin oIx (dVar 0) (dLit (.int 2))))) (dLit (.int 3))) (dLit (.int 2147483629))) (dLit (.int 32))))
    (dRet (dBin oMod (dVar 2) (dVar 1)))))))
noncomputable def F__law_pick : PF := mkFn 4 d__law_pick
theorem b__law_pick (g : Gm mg t_LETTERS t_MOST_FOLK t_MOST_LETS)  {f : Addr} (cdv : Value) (A : Around) (outer : List Env) (s : Shared) (H : Hp) (E : XK) (hr : Room 0 (A.deeper (envOfC "_law_pick" (defScope (top 27)) s.heap.objs.size f cdv))) :
    ZSs (cxOf CX0 P w K mg base ["deck", "size", "found", "number"] "_law_pick" (defScope (top 27)) f cdv A outer s H E).nox [] W0 (defBody (top 27)) d__law_pick :=
  (zss_cons (zs_if (zt_cmp oz_gt (ze_ix (zv 0) ze_int) ze_int (by first | exact nomark _ | with_unfolding_all rfl)) (zss_cons (zset 2 sc__law_pick.nd (ze_bin oz_mod (ze_ix (zv 0) ze_int) (zv 1)))
    (zss_cons (zs_store (ze_bin oz_fdiv (ze_ix (zv 0) ze_int) (zv 1)) (zv 0) ze_int)
    (zss_one (zs_ret (zv 2))))) zss_nil)
    (zss_cons (zs_store (ze_bin oz_add (ze_ix (zv 0) ze_int) ze_int) (zv 0) ze_int)
    (zss_cons (zset 3 sc__law_pick.nd (ze_bin oz_mod (ze_bin oz_pow (ze_bin oz_add (ze_ix (zv 0) ze_int) (ze_bin oz_mulG ze_int (ze_ix (zv 0) ze_int))) ze_int) ze_int))
    (zss_cons (zset 2 sc__law_pick.nd (ze_bin oz_fdiv (ze_bin oz_mod (ze_bin oz_pow (ze_bin oz_add (zv 3) (ze_bin oz_mulG ze_int (ze_ix (zv 0) ze_int))) ze_int) ze_int) ze_int))
    (zss_one (zs_ret (ze_bin oz_mod (zv 2) (zv 1))))))))
theorem ok__law_pick (g : Gm mg t_LETTERS t_MOST_FOLK t_MOST_LETS)  {f : Addr} {fd : FuncData} (F : Fun K "_law_pick" "_law_pick" (top 27) f fd) : FnOk P w K mg base CX0 1 f fd ["deck", "size"] (spZ ⟨K, mg, []⟩ 2 F__law_pick) :=
  fn_ok F sc__law_pick fun cdv A outer s H E hr => b__law_pick g  cdv A outer s H E hr
theorem f__law_pick (g : Gm mg t_LETTERS t_MOST_FOLK t_MOST_LETS)  {f : Addr} {fd : FuncData} (F : Fun K "_law_pick" "_law_pick" (top 27) f fd) (B : Binds K fd ["deck", "size"] []) (m : mg "_law_pick" = some (.ref f)) : FnZ P w K mg base [] "_law_pick" 2 1 F__law_pick :=
  ⟨f, fd, ["deck", "size"], rfl, ok__law_pick g  F, m, F.kp, B⟩
/-! ### _law_one -/
theorem sc__law_one : FnScope ["deck", "some"] ["deck", "some"] (defScope (top 28)) := ⟨rfl, rfl, rfl, by decide +kernel, rfl, by decide +kernel, by decide +kernel⟩
noncomputable def d__law_one : DS := (dRet (dBin oIx (dVar 1) (dCall 2 F__law_pick (dCons (dVar 0) (dCons (dFn fLen (dConsX (dVar 1) dNil)) dNil)))))
noncomputable def F__law_one : PF := mkFn 2 d__law_one
theorem b__law_one (g : Gm mg t_LETTERS t_MOST_FOLK t_MOST_LETS) (h__law_pick : FnZ P w K mg base [] "_law_pick" 2 1 F__law_pick) {f : Addr} (cdv : Value) (A : Around) (outer : List Env) (s : Shared) (H : Hp) (E : XK) (hr : Room 1 (A.deeper (envOfC "_law_one" (defScope (top 28)) s.heap.objs.size f cdv))) :
    ZSs (cxOf CX0 P w K mg base ["deck", "some"] "_law_one" (defScope (top 28)) f cdv A outer s H E).nox [] W0 (defBody (top 28)) d__law_one :=
  (zss_one (zs_ret (ze_ix (zv 1) (ze_call h__law_pick (hr.mono (by omega)) (by rfl) (za_cons (zv 0) (za_cons (ze_callB cz_len (by rfl) g.z_len (by decide +kernel) (zx_cons (zv 1) zx_nil)) za_nil))))))
theorem ok__law_one (g : Gm mg t_LETTERS t_MOST_FOLK t_MOST_LETS) (h__law_pick : FnZ P w K mg base [] "_law_pick" 2 1 F__law_pick) {f : Addr} {fd : FuncData} (F : Fun K "_law_one" "_law_one" (top 28) f fd) : FnOk P w K mg base CX0 2 f fd ["deck", "some"] (spZ ⟨K, mg, []⟩ 2 F__law_one) :=
  fn_ok F sc__law_one fun cdv A outer s H E hr => b__law_one g h__law_pick cdv A outer s H E hr
theorem f__law_one (g : Gm mg t_LETTERS t_MOST_FOLK t_MOST_LETS) (h__law_pick : FnZ P w K mg base [] "_law_pick" 2 1 F__law_pick) {f : Addr} {fd : FuncData} (F : Fun K "_law_one" "_law_one" (top 28) f fd) (B : Binds K fd ["deck", "some"] []) (m : mg "_law_one" = some (.ref f)) : FnZ P w K mg base [] "_law_one" 2 2 F__law_one :=
  ⟨f, fd, ["deck", "some"], rfl, ok__law_one g h__law_pick F, m, F.kp, B⟩
/-! ### _law_sort -/
theorem sc__law_sort : FnScope ["thing"] ["thing"] (defScope (top 29)) := ⟨rfl, rfl, rfl, by decide +kernel, rfl, by decide +kernel, by decide +kernel⟩
noncomputable def d__law_sort : DS := (dSeq (dIfS (dTst (dIsi [.bool] (dVar 0))) (dRet (dLit (.int 1))) dSkip)
    (dSeq (dIfS (dTst (dIsi [.int] (dVar 0))) (dRet (dLit (.int 2))) dSkip)
    (dSeq (dIfS (dTst (dIsi [.str] (dVar 0))) (dRet (dLit (.int 3))) dSkip)
    (dSeq (dIfS (dTst (dIsi [.list] (dVar 0))) (dRet (dLit (.int 4))) dSkip)
    (dRet (dIf (dTst (dIsi [.tuple] (dVar 0))) (dLit (.int 5)) (dLit (.int 6))))))))
noncomputable def F__law_sort : PF := mkFn 1 d__law_sort
theorem b__law_sort (g : Gm mg t_LETTERS t_MOST_FOLK t_MOST_LETS)  {f : Addr} (cdv : Value) (A : Around) (outer : List Env) (s : Shared) (H : Hp) (E : XK) (hr : Room 0 (A.deeper (envOfC "_law_sort" (defScope (top 29)) s.heap.objs.size f cdv))) :
    ZSs (cxOf CX0 P w K mg base ["thing"] "_law_sort" (defScope (top 29)) f cdv A outer s H E).nox [] W0 (defBody (top 29)) d__law_sort :=
  (zss_cons (zs_if (zt_val (ze_isi (t := .bool) (zv 0) (by rfl) g.z_isinstance (by rfl) g.z_bool (by decide +kernel))) (zss_one (zs_ret ze_int)) zss_nil)
    (zss_cons (zs_if (zt_val (ze_isi (t := .int) (zv 0) (by rfl) g.z_isinstance (by rfl) g.z_int (by decide +kernel))) (zss_one (zs_ret ze_int)) zss_nil)
    (zss_cons (zs_if (zt_val (ze_isi (t := .str) (zv 0) (by rfl) g.z_isinstance (by rfl) g.z_str (by decide +kernel))) (zss_one (zs_ret ze_int)) zss_nil)
    (zss_cons (zs_if (zt_val (ze_isi (t := .list) (zv 0) (by rfl) g.z_isinstance (by rfl) g.z_list (by decide +kernel))) (zss_one (zs_ret ze_int)) zss_nil)
    (zss_one (zs_ret (ze_if (zt_val (ze_isi (t := .tuple) (zv 0) (by rfl) g.z_isinstance (by rfl) g.z_tuple (by decide +kernel))) ze_int ze_int)))))))
theorem ok__law_sort (g : Gm mg t_LETTERS t_MOST_FOLK t_MOST_LETS)  {f : Addr} {fd : FuncData} (F : Fun K "_law_sort" "_law_sort" (top 29) f fd) : FnOk P w K mg base CX0 1 f fd ["thing"] (spZ ⟨K, mg, []⟩ 1 F__law_sort) :=
  fn_ok F sc__law_sort fun cdv A outer s H E hr => b__law_sort g  cdv A outer s H E hr
theorem f__law_sort (g : Gm mg t_LETTERS t_MOST_FOLK t_MOST_LETS)  {f : Addr} {fd : FuncData} (F : Fun K "_law_sort" "_law_sort" (top 29) f fd) (B : Binds K fd ["thing"] []) (m : mg "_law_sort" = some (.ref f)) : FnZ P w K mg base [] "_law_sort" 1 1 F__law_sort :=
  ⟨f, fd, ["thing"], rfl, ok__law_sort g  F, m, F.kp, B⟩
/-! ### _law_same -/
theorem sc__law_same : FnScope ["told", "due", "k", "part"] ["told", "due"] (defScope (top 30)) := ⟨rfl, rfl, rfl, by decide +kernel, rfl, by decide +kernel, by decide +kernel⟩
noncomputable def d__law_same (self : PF) : DS := (dSeq (dIfS (dTst (dBin oNe (dCall 1 F__law_sort (dCons (dVar 0) dNil)) (dCall 1 F__law_sort (dCons (dVar 1) dNil)))) (dRet (dLit (.bl false))) dSkip)
    (dSeq (dIfS (dAndT (dTst (dBin oGt (dCall 1 F__law_sort (dCons (dVar 0) dNil)) (dLit (.int 3)))) (dTst (dBin oLt (dCall 1 F__law_sort (dCons (dVar 0) dNil)) (dLit (.int 6))))) (dSeq (dIfS (dTst (dBin oNe (dFn fLen (dConsX (dVar 0) dNil)) (dFn fLen (dConsX (dVar 1) dNil)))) (dRet (dLit (.bl false))) dSkip)
    (dRet (dBin oEq (dLc (iEnu (dConsX (dVar 0) dNil)) (gTupZ (gAnd (gSet 2) (gAnd (gSet 3) gNon))) (dNotT (dTst (dCall 2 self (dCons (dVar 3) (dCons (dBin oIx (dVar 1) (dVar 2)) dNil))))) (dVar 2) [2, 3]) (dLst dNil)))) dSkip)
    (dRet (dBin oEq (dVar 0) (dVar 1)))))
noncomputable def R__law_same : Nat → PF
  | 0 => fun _ _ => .bad
  | k + 1 => mkFn 4 (d__law_same (R__law_same k))
noncomputable abbrev F__law_same : PF := R__law_same 3
theorem b__law_same (g : Gm mg t_LETTERS t_MOST_FOLK t_MOST_LETS) (h__law_sort : FnZ P w K mg base [] "_law_sort" 1 1 F__law_sort) {k : Nat} {self : PF} (h__law_same : FnZ P w K mg base [] "_law_same" 2 (1 + k) self) {f : Addr} (cdv : Value) (A : Around) (outer : List Env) (s : Shared) (H : Hp) (E : XK) (hr : Room (1 + k) (A.deeper (envOfC "_law_same" (defScope (top 30)) s.heap.objs.size f cdv))) :
    ZSs (cxOf CX0 P w K mg base ["told", "due", "k", "part"] "_law_same" (defScope (top 30)) f cdv A outer s H E).nox [] W0 (defBody (top 30)) (d__law_same self) :=
  (zss_cons (zs_if (zt_cmp (oz_ne (hu64 hr)) (ze_call h__law_sort (hr.mono (by omega)) (by rfl) (za_cons (zv 0) za_nil)) (ze_call h__law_sort (hr.mono (by omega)) (by rfl) (za_cons (zv 1) za_nil)) (by first | exact nomark _ | with_unfolding_all rfl)) (zss_one (zs_ret ze_bl)) zss_nil)
    (zss_cons (zs_if (zt_w (zw_and (zt_cmp oz_gt (ze_call h__law_sort (hr.mono (by omega)) (by rfl) (za_cons (zv 0) za_nil)) ze_int (by first | exact nomark _ | with_unfolding_all rfl)) (zw_and1 (zt_cmp oz_lt (ze_call h__law_sort (hr.mono (by omega)) (by rfl) (za_cons (zv 0) za_nil)) ze_int (by first | exact nomark _ | with_unfolding_all rfl))))) (zss_cons (zs_if (zt_cmp (oz_ne (hu64 hr)) (ze_callB cz_len (by rfl) g.z_len (by decide +kernel) (zx_cons (zv 0) zx_nil)) (ze_callB cz_len (by rfl) g.z_len (by decide +kernel) (zx_cons (zv 1) zx_nil)) (by first | exact nomark _ | with_unfolding_all rfl)) (zss_one (zs_ret ze_bl)) zss_nil)
    (zss_one (zs_ret (ze_cmp (oz_eq (hu64 hr)) (ze_lc (own := [("k", 2), ("part", 3)]) rfl sc__law_same.nd (zi_enu (by rfl) g.z_enumerate (zx_cons (zv 0) zx_nil)) (blkOk_by (N := ["told", "due", "k", "part"]) (sc := defScope (top 30)) (by decide +kernel)) (by decide) (fun _ _ _ _ _ => (zg_tup rfl (zgs_cons (zg 2 sc__law_same.nd) (zgs_cons (zg 3 sc__law_same.nd) zgs_nil)))) (fun _ _ _ _ _ => (zts_one (zt_not (zt_val (ze_call h__law_same (hr.mono (by omega)) (by rfl) (za_cons (zv 3) (za_cons (ze_ix (zv 1) (zv 2)) za_nil))))))) (fun _ _ _ _ _ => (zv 2))) (ze_lst za_nil) (by first | exact nomark _ | with_unfolding_all rfl))))) zss_nil)
    (zss_one (zs_ret (ze_cmp (oz_eq (hu64 hr)) (zv 0) (zv 1) (by first | exact nomark _ | with_unfolding_all rfl))))))
theorem f__law_same (g : Gm mg t_LETTERS t_MOST_FOLK t_MOST_LETS) (h__law_sort : FnZ P w K mg base [] "_law_sort" 1 1 F__law_sort) {f : Addr} {fd : FuncData} (F : Fun K "_law_same" "_law_same" (top 30) f fd) (B : Binds K fd ["told", "due"] []) (m : mg "_law_same" = some (.ref f)) : ∀ k : Nat, FnZ P w K mg base [] "_law_same" 2 (1 + k) (R__law_same k)
  | 0 => ⟨f, fd, ["told", "due"], rfl, fn_bad, m, F.kp, B⟩
  | k + 1 => ⟨f, fd, ["told", "due"], rfl, fn_ok F sc__law_same fun cdv A outer s H E hr => b__law_same g h__law_sort (f__law_same g h__law_sort F B m k) cdv A outer s H E hr, m, F.kp, B⟩
/-! ### _law_drawn -/
theorem sc__law_drawn : FnScope ["deck", "left", "found"] ["deck", "left"] (defScope (top 32)) := ⟨rfl, rfl, rfl, by decide +kernel, rfl, by decide +kernel, by decide +kernel⟩
noncomputable def d__law_drawn : DS := (dSeq (dSet 2 (dLst dNil))
    (dSeq (dWhile (dTst (dBin oNe (dVar 1) (dLst dNil))) (dDrop (dMeth .list mAppend (dVar 2) (dCons (dMeth .list mPop (dVar 1) (dCons (dCall 2 F__law_pick (dCons (dVar 0) (dCons (dFn fLen (dConsX (dVar 1) dNil)) dNil))) dNil)) dNil))))
    (dRet (dFn fTuple (dConsX (dVar 2) dNil)))))
noncomputable def F__law_drawn : PF := mkFn 3 d__law_drawn
theorem b__law_drawn (g : Gm mg t_LETTERS t_MOST_FOLK t_MOST_LETS) (h__law_pick : FnZ P w K mg base [] "_law_pick" 2 1 F__law_pick) {f : Addr} (cdv : Value) (A : Around) (outer : List Env) (s : Shared) (H : Hp) (E : XK) (hr : Room 1 (A.deeper (envOfC "_law_drawn" (defScope (top 32)) s.heap.objs.size f cdv))) :
    ZSs (cxOf CX0 P w K mg base ["deck", "left", "found"] "_law_drawn" (defScope (top 32)) f cdv A outer s H E).nox [] W0 (defBody (top 32)) d__law_drawn :=
  (zss_cons (zset 2 sc__law_drawn.nd (ze_lst za_nil))
    (zss_cons (zs_while PassesOwn.never (zt_cmp (oz_ne (hu64 hr)) (zv 1) (ze_lst za_nil) (by first | exact nomark _ | with_unfolding_all rfl)) (zss_one (zs_expr (ze_meth (B := .list) PySem.F.plainAttrs_list PySem.F.slot_list_append PySem.F.type_list_append mz_append rfl (zv 2) (za_cons (ze_meth (B := .list) PySem.F.plainAttrs_list PySem.F.slot_list_pop PySem.F.type_list_pop mz_pop rfl (zv 1) (za_cons (ze_call h__law_pick (hr.mono (by omega)) (by rfl) (za_cons (zv 0) (za_cons (ze_callB cz_len (by rfl) g.z_len (by decide +kernel) (zx_cons (zv 1) zx_nil)) za_nil))) za_nil)) za_nil)))))
    (zss_one (zs_ret (ze_callTy cz_tuple (by rfl) g.z_tuple (by decide +kernel) (zx_cons (zv 2) zx_nil))))))
theorem ok__law_drawn (g : Gm mg t_LETTERS t_MOST_FOLK t_MOST_LETS) (h__law_pick : FnZ P w K mg base [] "_law_pick" 2 1 F__law_pick) {f : Addr} {fd : FuncData} (F : Fun K "_law_drawn" "_law_drawn" (top 32) f fd) : FnOk P w K mg base CX0 2 f fd ["deck", "left"] (spZ ⟨K, mg, []⟩ 2 F__law_drawn) :=
  fn_ok F sc__law_drawn fun cdv A outer s H E hr => b__law_drawn g h__law_pick cdv A outer s H E hr
theorem f__law_drawn (g : Gm mg t_LETTERS t_MOST_FOLK t_MOST_LETS) (h__law_pick : FnZ P w K mg base [] "_law_pick" 2 1 F__law_pick) {f : Addr} {fd : FuncData} (F : Fun K "_law_drawn" "_law_drawn" (top 32) f fd) (B : Binds K fd ["deck", "left"] []) (m : mg "_law_drawn" = some (.ref f)) : FnZ P w K mg base [] "_law_drawn" 2 2 F__law_drawn :=
  ⟨f, fd, ["deck", "left"], rfl, ok__law_drawn g h__law_pick F, m, F.kp, B⟩
/-! ### _law_names -/
theorem sc__law_names : FnScope ["deck", "many", "letters", "some", "sign"] ["deck", "many"] (defScope (top 31)) := ⟨rfl, rfl, rfl, by decide +kernel, rfl, by decide +kernel, by decide +kernel⟩
noncomputable def d__law_names : DS := (dSeq (dSet 2 (dLit (.str "abcdefghijklmnopqrstuvwxyz")))
    (dSeq (dSet 3 (dBin oAdd (dLst (dCons (dLit (.str "ann")) (dCons (dLit (.str "bo")) (dCons (dLit (.str "cy")) (dCons (dLit (.str "dee")) (dCons (dLit (.str "eli")) (dCons (dLit (.str "fay")) (dCons (dLit (.str "gus")) dNil)))))))) (dLc (iAny (dSl (dVar 2) (dPart (dLit (.int 2))) dNo)) (gSet 4) dYes (dBin oAdd (dVar 4) (dLit (.str "o"))) [4])))
    (dRet (dSl (dCall 2 F__law_drawn (dCons (dVar 0) (dCons (dVar 3) dNil))) dNo (dPart (dVar 1))))))
noncomputable def F__law_names : PF := mkFn 5 d__law_names
theorem b__law_names (g : Gm mg t_LETTERS t_MOST_FOLK t_MOST_LETS) (h__law_drawn : FnZ P w K mg base [] "_law_drawn" 2 2 F__law_drawn) {f : Addr} (cdv : Value) (A : Around) (outer : List Env) (s : Shared) (H : Hp) (E : XK) (hr : Room 2 (A.deeper (envOfC "_law_names" (defScope (top 31)) s.heap.objs.size f cdv))) :
    ZSs (cxOf CX0 P w K mg base ["deck", "many", "letters", "some", "sign"] "_law_names" (defScope (top 31)) f cdv A outer s H E).nox [] W0 (defBody (top 31)) d__law_names :=
  (zss_cons (zset 2 sc__law_names.nd ze_str)
    (zss_cons (zset 3 sc__law_names.nd (ze_bin oz_add (ze_lst (za_cons ze_str (za_cons ze_str (za_cons ze_str (za_cons ze_str (za_cons ze_str (za_cons ze_str (za_cons ze_str za_nil)))))))) (ze_lc (own := [("sign", 4)]) rfl sc__law_names.nd (zi_any (ze_sl (zv 2) (zo_some ze_int) zo_none)) (blkOk_by (N := ["deck", "many", "letters", "some", "sign"]) (sc := defScope (top 31)) (by decide +kernel)) (by decide) (fun _ _ _ _ _ => (zg 4 sc__law_names.nd)) (fun _ _ _ _ _ => zts_nil) (fun _ _ _ _ _ => (ze_bin oz_add (zv 4) ze_str)))))
    (zss_one (zs_ret (ze_sl (ze_call h__law_drawn (hr.mono (by omega)) (by rfl) (za_cons (zv 0) (za_cons (zv 3) za_nil))) zo_none (zo_some (zv 1)))))))
theorem ok__law_names (g : Gm mg t_LETTERS t_MOST_FOLK t_MOST_LETS) (h__law_drawn : FnZ P w K mg base [] "_law_drawn" 2 2 F__law_drawn) {f : Addr} {fd : FuncData} (F : Fun K "_law_names" "_law_names" (top 31) f fd) : FnOk P w K mg base CX0 3 f fd ["deck", "many"] (spZ ⟨K, mg, []⟩ 2 F__law_names) :=
  fn_ok F sc__law_names fun cdv A outer s H E hr => b__law_names g h__law_drawn cdv A outer s H E hr
theorem f__law_names (g : Gm mg t_LETTERS t_MOST_FOLK t_MOST_LETS) (h__law_drawn : FnZ P w K mg base [] "_law_drawn" 2 2 F__law_drawn) {f : Addr} {fd : FuncData} (F : Fun K "_law_names" "_law_names" (top 31) f fd) (B : Binds K fd ["deck", "many"] []) (m : mg "_law_names" = some (.ref f)) : FnZ P w K mg base [] "_law_names" 2 3 F__law_names :=
  ⟨f, fd, ["deck", "many"], rfl, ok__law_names g h__law_drawn F, m, F.kp, B⟩
/-! ### _law_line -/
theorem sc__law_line : FnScope ["deck", "at_most", "lets_so", "names", "name"] ["deck", "at_most", "lets_so"] (defScope (top 33)) := ⟨rfl, rfl, rfl, by decide +kernel, rfl, by decide +kernel, by decide +kernel⟩
noncomputable def d__law_line : DS := (dSeq (dSet 3 (dCall 2 F__law_names (dCons (dVar 0) (dCons (dBin oAdd (dLit (.int 1)) (dCall 2 F__law_pick (dCons (dVar 0) (dCons (dVar 1) dNil)))) dNil))))
    (dRet (dFn fTuple (dConsX (dLc (iAny (dVar 3)) (gSet 4) dYes (dTup (dCons (dVar 4) (dCons (dCall 2 F__law_one (dCons (dVar 0) (dCons (dLst (dCons (dLit (.int 0)) (dCons (dLit (.int 1)) (dCons (dCall 2 F__law_pick (dCons (dVar 0) (dCons (dBin oAdd (dVar 2) (dLit (.int 1))) dNil))) dNil)))) dNil))) dNil))) [4]) dNil))))
noncomputable def F__law_line : PF := mkFn 5 d__law_line
theorem b__law_line (g : Gm mg t_LETTERS t_MOST_FOLK t_MOST_LETS) (h__law_names : FnZ P w K mg base [] "_law_names" 2 3 F__law_names) (h__law_pick : FnZ P w K mg base [] "_law_pick" 2 1 F__law_pick) (h__law_one : FnZ P w K mg base [] "_law_one" 2 2 F__law_one) {f : Addr} (cdv : Value) (A : Around) (outer : List Env) (s : Shared) (H : Hp) (E : XK) (hr : Room 3 (A.deeper (envOfC "_law_line" (defScope (top 33)) s.heap.objs.size f cdv))) :
    ZSs (cxOf CX0 P w K mg base ["deck", "at_most", "lets_so", "names", "name"] "_law_line" (defScope (top 33)) f cdv A outer s H E).nox [] W0 (defBody (top 33)) d__law_line :=
  (zss_cons (zset 3 sc__law_line.nd (ze_call h__law_names (hr.mono (by omega)) (by rfl) (za_cons (zv 0) (za_cons (ze_bin oz_add ze_int (ze_call h__law_pick (hr.mono (by omega)) (by rfl) (za_cons (zv 0) (za_cons (zv 1) za_nil)))) za_nil))))
    (zss_one (zs_ret (ze_callTy cz_tuple (by rfl) g.z_tuple (by decide +kernel) (zx_cons (ze_lc (own := [("name", 4)]) rfl sc__law_line.nd (zi_any (zv 3)) (blkOk_by (N := ["deck", "at_most", "lets_so", "names", "name"]) (sc := defScope (top 33)) (by decide +kernel)) (by decide) (fun _ _ _ _ _ => (zg 4 sc__law_line.nd)) (fun _ _ _ _ _ => zts_nil) (fun _ _ _ _ _ => (ze_tup (za_cons (zv 4) (za_cons (ze_call h__law_one (hr.mono (by omega)) (by rfl) (za_cons (zv 0) (za_cons (ze_lst (za_cons ze_int (za_cons ze_int (za_cons (ze_call h__law_pick (hr.mono (by omega)) (by rfl) (za_cons (zv 0) (za_cons (ze_bin oz_add (zv 2) ze_int) za_nil))) za_nil)))) za_nil))) za_nil))))) zx_nil)))))
theorem ok__law_line (g : Gm mg t_LETTERS t_MOST_FOLK t_MOST_LETS) (h__law_names : FnZ P w K mg base [] "_law_names" 2 3 F__law_names) (h__law_pick : FnZ P w K mg base [] "_law_pick" 2 1 F__law_pick) (h__law_one : FnZ P w K mg base [] "_law_one" 2 2 F__law_one) {f : Addr} {fd : FuncData} (F : Fun K "_law_line" "_law_line" (top 33) f fd) : FnOk P w K mg base CX0 4 f fd ["deck", "at_most", "lets_so"] (spZ ⟨K, mg, []⟩ 3 F__law_line) :=
  fn_ok F sc__law_line fun cdv A outer s H E hr => b__law_line g h__law_names h__law_pick h__law_one cdv A outer s H E hr
theorem f__law_line (g : Gm mg t_LETTERS t_MOST_FOLK t_MOST_LETS) (h__law_names : FnZ P w K mg base [] "_law_names" 2 3 F__law_names) (h__law_pick : FnZ P w K mg base [] "_law_pick" 2 1 F__law_pick) (h__law_one : FnZ P w K mg base [] "_law_one" 2 2 F__law_one) {f : Addr} {fd : FuncData} (F : Fun K "_law_line" "_law_line" (top 33) f fd) (B : Binds K fd ["deck", "at_most", "lets_so"] []) (m : mg "_law_line" = some (.ref f)) : FnZ P w K mg base [] "_law_line" 3 4 F__law_line :=
  ⟨f, fd, ["deck", "at_most", "lets_so"], rfl, ok__law_line g h__law_names h__law_pick h__law_one F, m, F.kp, B⟩
/-! ### _law_passed -/
theorem sc__law_passed : FnScope ["names", "order", "found", "at", "name", "here", "one"] ["names", "order"] (defScope (top 34)) := ⟨rfl, rfl, rfl, by decide +kernel, rfl, by decide +kernel, by decide +kernel⟩
noncomputable def d__law_passed : DS := (dSeq (dSet 2 (dLst dNil))
    (dSeq (dFor (iEnu (dConsX (dVar 0) dNil)) (gTupZ (gAnd (gSet 3) (gAnd (gSet 4) gNon))) (dSeq (dSet 5 (dMeth2 mIndex (dVar 1) (dCons (dVar 4) dNil)))
    (dDrop (dMeth .list mAppend (dVar 2) (dCons (dFn fLen (dConsX (dLc (iAny (dSl (dVar 0) (dPart (dBin oAdd (dVar 3) (dLit (.int 1)))) dNo)) (gSet 6) (dTst (dBin oLt (dMeth2 mIndex (dVar 1) (dCons (dVar 6) dNil)) (dVar 5))) (dVar 6) [6]) dNil)) dNil)))))
    (dRet (dVar 2))))
noncomputable def F__law_passed : PF := mkFn 7 d__law_passed
theorem b__law_passed (g : Gm mg t_LETTERS t_MOST_FOLK t_MOST_LETS)  {f : Addr} (cdv : Value) (A : Around) (outer : List Env) (s : Shared) (H : Hp) (E : XK) (hr : Room 0 (A.deeper (envOfC "_law_passed" (defScope (top 34)) s.heap.objs.size f cdv))) :
    ZSs (cxOf CX0 P w K mg base ["names", "order", "found", "at", "name", "here", "one"] "_law_passed" (defScope (top 34)) f cdv A outer s H E).nox [] W0 (defBody (top 34)) d__law_passed :=
  (zss_cons (zset 2 sc__law_passed.nd (ze_lst za_nil))
    (zss_cons (zs_for PassesOwn.never rfl (zi_enu (by rfl) g.z_enumerate (zx_cons (zv 0) zx_nil)) (zg_tup rfl (zgs_cons (zg 3 sc__law_passed.nd) (zgs_cons (zg 4 sc__law_passed.nd) zgs_nil))) (zss_cons (zset 5 sc__law_passed.nd (ze_meth2 PySem.F.slot_list_index PySem.F.type_list_index PySem.F.slot_tuple_index PySem.F.type_tuple_index (mz_index_list (hu65 hr)) (mz_index_tuple (hu65 hr)) (zv 1) (za_cons (zv 4) za_nil)))
    (zss_one (zs_expr (ze_meth (B := .list) PySem.F.plainAttrs_list PySem.F.slot_list_append PySem.F.type_list_append mz_append rfl (zv 2) (za_cons (ze_callB cz_len (by rfl) g.z_len (by decide +kernel) (zx_cons (ze_lc (own := [("one", 6)]) rfl sc__law_passed.nd (zi_any (ze_sl (zv 0) (zo_some (ze_bin oz_add (zv 3) ze_int)) zo_none)) (blkOk_by (N := ["names", "order", "found", "at", "name", "here", "one"]) (sc := defScope (top 34)) (by decide +kernel)) (by decide) (fun _ _ _ _ _ => (zg 6 sc__law_passed.nd)) (fun _ _ _ _ _ => (zts_one (zt_cmp oz_lt (ze_meth2 PySem.F.slot_list_index PySem.F.type_list_index PySem.F.slot_tuple_index PySem.F.type_tuple_index (mz_index_list (hu65 hr)) (mz_index_tuple (hu65 hr)) (zv 1) (za_cons (zv 6) za_nil)) (zv 5) (by first | exact nomark _ | with_unfolding_all rfl)))) (fun _ _ _ _ _ => (zv 6))) zx_nil)) za_nil))))))
    (zss_one (zs_ret (zv 2)))))
theorem ok__law_passed (g : Gm mg t_LETTERS t_MOST_FOLK t_MOST_LETS)  {f : Addr} {fd : FuncData} (F : Fun K "_law_passed" "_law_passed" (top 34) f fd) : FnOk P w K mg base CX0 1 f fd ["names", "order"] (spZ ⟨K, mg, []⟩ 2 F__law_passed) :=
  fn_ok F sc__law_passed fun cdv A outer s H E hr => b__law_passed g  cdv A outer s H E hr
theorem f__law_passed (g : Gm mg t_LETTERS t_MOST_FOLK t_MOST_LETS)  {f : Addr} {fd : FuncData} (F : Fun K "_law_passed" "_law_passed" (top 34) f fd) (B : Binds K fd ["names", "order"] []) (m : mg "_law_passed" = some (.ref f)) : FnZ P w K mg base [] "_law_passed" 2 1 F__law_passed :=
  ⟨f, fd, ["names", "order"], rfl, ok__law_passed g  F, m, F.kp, B⟩
/-! ### _law_comes -/
theorem sc__law_comes : FnScope ["line", "order", "passed", "row", "k"] ["line", "order"] (defScope (top 35)) := ⟨rfl, rfl, rfl, by decide +kernel, rfl, by decide +kernel, by decide +kernel⟩
noncomputable def d__law_comes : DS := (dSeq (dSet 2 (dCall 2 F__law_passed (dCons (dLc (iAny (dVar 0)) (gSet 3) dYes (dBin oIx (dVar 3) (dLit (.int 0))) [3]) (dCons (dVar 1) dNil))))
    (dRet (dBin oEq (dLc (iEnu (dConsX (dVar 0) dNil)) (gTupZ (gAnd (gSet 4) (gAnd (gSet 3) gNon))) (dTst (dBin oGt (dBin oIx (dVar 2) (dVar 4)) (dBin oIx (dVar 3) (dLit (.int 1))))) (dVar 4) [4, 3]) (dLst dNil))))
noncomputable def F__law_comes : PF := mkFn 5 d__law_comes
theorem b__law_comes (g : Gm mg t_LETTERS t_MOST_FOLK t_MOST_LETS) (h__law_passed : FnZ P w K mg base [] "_law_passed" 2 1 F__law_passed) {f : Addr} (cdv : Value) (A : Around) (outer : List Env) (s : Shared) (H : Hp) (E : XK) (hr : Room 1 (A.deeper (envOfC "_law_comes" (defScope (top 35)) s.heap.objs.size f cdv))) :
    ZSs (cxOf CX0 P w K mg base ["line", "order", "passed", "row", "k"] "_law_comes" (defScope (top 35)) f cdv A outer s H E).nox [] W0 (defBody (top 35)) d__law_comes :=
  (zss_cons (zset 2 sc__law_comes.nd (ze_call h__law_passed (hr.mono (by omega)) (by rfl) (za_cons (ze_lc (own := [("row", 3)]) rfl sc__law_comes.nd (zi_any (zv 0)) (blkOk_by (N := ["line", "order", "passed", "row", "k"]) (sc := defScope (top 35)) (by decide +kernel)) (by decide) (fun _ _ _ _ _ => (zg 3 sc__law_comes.nd)) (fun _ _ _ _ _ => zts_nil) (fun _ _ _ _ _ => (ze_ix (zv 3) ze_int))) (za_cons (zv 1) za_nil))))
    (zss_one (zs_ret (ze_cmp (oz_eq (hu64 hr)) (ze_lc (own := [("k", 4), ("row", 3)]) rfl sc__law_comes.nd (zi_enu (by rfl) g.z_enumerate (zx_cons (zv 0) zx_nil)) (blkOk_by (N := ["line", "order", "passed", "row", "k"]) (sc := defScope (top 35)) (by decide +kernel)) (by decide) (fun _ _ _ _ _ => (zg_tup rfl (zgs_cons (zg 4 sc__law_comes.nd) (zgs_cons (zg 3 sc__law_comes.nd) zgs_nil)))) (fun _ _ _ _ _ => (zts_one (zt_cmp oz_gt (ze_ix (zv 2) (zv 4)) (ze_ix (zv 3) ze_int) (by first | exact nomark _ | with_unfolding_all rfl)))) (fun _ _ _ _ _ => (zv 4))) (ze_lst za_nil) (by first | exact nomark _ | with_unfolding_all rfl)))))
theorem ok__law_comes (g : Gm mg t_LETTERS t_MOST_FOLK t_MOST_LETS) (h__law_passed : FnZ P w K mg base [] "_law_passed" 2 1 F__law_passed) {f : Addr} {fd : FuncData} (F : Fun K "_law_comes" "_law_comes" (top 35) f fd) : FnOk P w K mg base CX0 2 f fd ["line", "order"] (spZ ⟨K, mg, []⟩ 2 F__law_comes) :=
  fn_ok F sc__law_comes fun cdv A outer s H E hr => b__law_comes g h__law_passed cdv A outer s H E hr
theorem f__law_comes (g : Gm mg t_LETTERS t_MOST_FOLK t_MOST_LETS) (h__law_passed : FnZ P w K mg base [] "_law_passed" 2 1 F__law_passed) {f : Addr} {fd : FuncData} (F : Fun K "_law_comes" "_law_comes" (top 35) f fd) (B : Binds K fd ["line", "order"] []) (m : mg "_law_comes" = some (.ref f)) : FnZ P w K mg base [] "_law_comes" 2 2 F__law_comes :=
  ⟨f, fd, ["line", "order"], rfl, ok__law_comes g h__law_passed F, m, F.kp, B⟩
/-! ### _law_pairs_right -/
theorem sc__law_pairs_right : FnScope ["deck", "line", "names", "many", "turn", "one", "other", "name", "mean", "k"] ["deck", "line", "names", "many"] (defScope (top 36)) := ⟨rfl, rfl, rfl, by decide +kernel, rfl, by decide +kernel, by decide +kernel⟩
noncomputable def d__law_pairs_right : DS := (dSeq (dFor (iRan1 (dCons (dBin oMulG (dLit (.int 6)) (dFn fInt (dConsX (dBin oGt (dFn fLen (dConsX (dVar 2) dNil)) (dLit (.int 1))) dNil))) dNil)) (gSet 4) (dSeq (dSet 5 (dCall 2 F__law_one (dCons (dVar 0) (dCons (dVar 2) dNil))))
    (dSeq (dSet 6 (dCall 2 F__law_one (dCons (dVar 0) (dCons (dLc (iAny (dVar 2)) (gSet 7) (dTst (dBin oNe (dVar 7) (dVar 5))) (dVar 7) [7]) dNil))))
    (dSeq (dIfS (dTst (dBin oNe (dBin oAdd (dCall 3 F_ahead_in (dCons (dVar 1) (dCons (dVar 5) (dCons (dVar 6) dNil)))) (dCall 3 F_ahead_in (dCons (dVar 1) (dCons (dVar 6) (dCons (dVar 5) dNil))))) (dVar 3))) (dRet (dLit (.bl false))) dSkip)
    (dIfS (dAndT (dTst (dBin oLt (dMeth2 mIndex (dVar 2) (dCons (dVar 5) dNil)) (dMeth2 mIndex (dVar 2) (dCons (dVar 6) dNil)))) (dTst (dBin oEq (dCall 3 F_ahead_in (dCons (dVar 1) (dCons (dVar 5) (dCons (dVar 6) dNil)))) (dLit (.int 0))))) (dRet (dLit (.bl false))) dSkip)))))
    (dSeq (dSet 7 (dCall 2 F__law_one (dCons (dVar 0) (dCons (dVar 2) dNil))))
    (dSeq (dSet 8 (dFn fSum (dConsX (dLc (iEnu (dConsX (dCall 2 F_at_places (dCons (dVar 1) (dCons (dVar 7) dNil))) dNil)) (gTupZ (gAnd (gSet 9) (gAnd (gSet 5) gNon))) dYes (dBin oMulG (dVar 9) (dVar 5)) [9, 5]) dNil)))
    (dRet (dBin oEq (dVar 8) (dFn fSum (dConsX (dLc (iAny (dVar 2)) (gSet 6) (dTst (dBin oNe (dVar 6) (dVar 7))) (dCall 3 F_ahead_in (dCons (dVar 1) (dCons (dVar 6) (dCons (dVar 7) dNil)))) [6]) dNil)))))))
noncomputable def F__law_pairs_right : PF := mkFn 10 d__law_pairs_right
theorem b__law_pairs_right (g : Gm mg t_LETTERS t_MOST_FOLK t_MOST_LETS) (h__law_one : FnZ P w K mg base [] "_law_one" 2 2 F__law_one) (h_ahead_in : FnZ P w K mg base [] "ahead_in" 3 6 F_ahead_in) (h_at_places : FnZ P w K mg base [] "at_places" 2 6 F_at_places) {f : Addr} (cdv : Value) (A : Around) (outer : List Env) (s : Shared) (H : Hp) (E : XK) (hr : Room 6 (A.deeper (envOfC "_law_pairs_right" (defScope (top 36)) s.heap.objs.size f cdv))) :
    ZSs (cxOf CX0 P w K mg base ["deck", "line", "names", "many", "turn", "one", "other", "name", "mean", "k"] "_law_pairs_right" (defScope (top 36)) f cdv A outer s H E).nox [] W0 (defBody (top 36)) d__law_pairs_right :=
  (zss_cons (zs_for PassesOwn.never rfl (zi_range1 (by rfl) g.z_range (za_cons (ze_bin oz_mulG ze_int (ze_callTy cz_int (by rfl) g.z_int (by decide +kernel) (zx_cons (ze_cmp oz_gt (ze_callB cz_len (by rfl) g.z_len (by decide +kernel) (zx_cons (zv 2) zx_nil)) ze_int (by first | exact nomark _ | with_unfolding_all rfl)) zx_nil))) za_nil)) (zg 4 sc__law_pairs_right.nd) (zss_cons (zset 5 sc__law_pairs_right.nd (ze_call h__law_one (hr.mono (by omega)) (by rfl) (za_cons (zv 0) (za_cons (zv 2) za_nil))))
    (zss_cons (zset 6 sc__law_pairs_right.nd (ze_call h__law_one (hr.mono (by omega)) (by rfl) (za_cons (zv 0) (za_cons (ze_lc (own := [("name", 7)]) rfl sc__law_pairs_right.nd (zi_any (zv 2)) (blkOk_by (N := ["deck", "line", "names", "many", "turn", "one", "other", "name", "mean", "k"]) (sc := defScope (top 36)) (by decide +kernel)) (by decide) (fun _ _ _ _ _ => (zg 7 sc__law_pairs_right.nd)) (fun _ _ _ _ _ => (zts_one (zt_cmp (oz_ne (hu64 hr)) (zv 7) (zv 5) (by first | exact nomark _ | with_unfolding_all rfl)))) (fun _ _ _ _ _ => (zv 7))) za_nil))))
    (zss_cons (zs_if (zt_cmp (oz_ne (hu64 hr)) (ze_bin oz_add (ze_call h_ahead_in (hr.mono (by omega)) (by rfl) (za_cons (zv 1) (za_cons (zv 5) (za_cons (zv 6) za_nil)))) (ze_call h_ahead_in (hr.mono (by omega)) (by rfl) (za_cons (zv 1) (za_cons (zv 6) (za_cons (zv 5) za_nil))))) (zv 3) (by first | exact nomark _ | with_unfolding_all rfl)) (zss_one (zs_ret ze_bl)) zss_nil)
    (zss_one (zs_if (zt_w (zw_and (zt_cmp oz_lt (ze_meth2 PySem.F.slot_list_index PySem.F.type_list_index PySem.F.slot_tuple_index PySem.F.type_tuple_index (mz_index_list (hu65 hr)) (mz_index_tuple (hu65 hr)) (zv 2) (za_cons (zv 5) za_nil)) (ze_meth2 PySem.F.slot_list_index PySem.F.type_list_index PySem.F.slot_tuple_index PySem.F.type_tuple_index (mz_index_list (hu65 hr)) (mz_index_tuple (hu65 hr)) (zv 2) (za_cons (zv 6) za_nil)) (by first | exact nomark _ | with_unfolding_all rfl)) (zw_and1 (zt_cmp (oz_eq (hu64 hr)) (ze_call h_ahead_in (hr.mono (by omega)) (by rfl) (za_cons (zv 1) (za_cons (zv 5) (za_cons (zv 6) za_nil)))) ze_int (by first | exact nomark _ | with_unfolding_all rfl))))) (zss_one (zs_ret ze_bl)) zss_nil))))))
    (zss_cons (zset 7 sc__law_pairs_right.nd (ze_call h__law_one (hr.mono (by omega)) (by rfl) (za_cons (zv 0) (za_cons (zv 2) za_nil))))
    (zss_cons (zset 8 sc__law_pairs_right.nd (ze_callB (cz_sum (by rfl)) (by rfl) g.z_sum (by decide +kernel) (zx_cons (ze_lc (own := [("k", 9), ("one", 5)]) rfl sc__law_pairs_right.nd (zi_enu (by rfl) g.z_enumerate (zx_cons (ze_call h_at_places (hr.mono (by omega)) (by rfl) (za_cons (zv 1) (za_cons (zv 7) za_nil))) zx_nil)) (blkOk_by (N := ["deck", "line", "names", "many", "turn", "one", "other", "name", "mean", "k"]) (sc := defScope (top 36)) (by decide +kernel)) (by decide) (fun _ _ _ _ _ => (zg_tup rfl (zgs_cons (zg 9 sc__law_pairs_right.nd) (zgs_cons (zg 5 sc__law_pairs_right.nd) zgs_nil)))) (fun _ _ _ _ _ => zts_nil) (fun _ _ _ _ _ => (ze_bin oz_mulG (zv 9) (zv 5)))) zx_nil)))
    (zss_one (zs_ret (ze_cmp (oz_eq (hu64 hr)) (zv 8) (ze_callB (cz_sum (by rfl)) (by rfl) g.z_sum (by decide +kernel) (zx_cons (ze_lc (own := [("other", 6)]) rfl sc__law_pairs_right.nd (zi_any (zv 2)) (blkOk_by (N := ["deck", "line", "names", "many", "turn", "one", "other", "name", "mean", "k"]) (sc := defScope (top 36)) (by decide +kernel)) (by decide) (fun _ _ _ _ _ => (zg 6 sc__law_pairs_right.nd)) (fun _ _ _ _ _ => (zts_one (zt_cmp (oz_ne (hu64 hr)) (zv 6) (zv 7) (by first | exact nomark _ | with_unfolding_all rfl)))) (fun _ _ _ _ _ => (ze_call h_ahead_in (hr.mono (by omega)) (by rfl) (za_cons (zv 1) (za_cons (zv 6) (za_cons (zv 7) za_nil)))))) zx_nil)) (by first | exact nomark _ | with_unfolding_all rfl)))))))
theorem ok__law_pairs_right (g : Gm mg t_LETTERS t_MOST_FOLK t_MOST_LETS) (h__law_one : FnZ P w K mg base [] "_law_one" 2 2 F__law_one) (h_ahead_in : FnZ P w K mg base [] "ahead_in" 3 6 F_ahead_in) (h_at_places : FnZ P w K mg base [] "at_places" 2 6 F_at_places) {f : Addr} {fd : FuncData} (F : Fun K "_law_pairs_right" "_law_pairs_right" (top 36) f fd) : FnOk P w K mg base CX0 7 f fd ["deck", "line", "names", "many"] (spZ ⟨K, mg, []⟩ 4 F__law_pairs_right) :=
  fn_ok F sc__law_pairs_right fun cdv A outer s H E hr => b__law_pairs_right g h__law_one h_ahead_in h_at_places cdv A outer s H E hr
theorem f__law_pairs_right (g : Gm mg t_LETTERS t_MOST_FOLK t_MOST_LETS) (h__law_one : FnZ P w K mg base [] "_law_one" 2 2 F__law_one) (h_ahead_in : FnZ P w K mg base [] "ahead_in" 3 6 F_ahead_in) (h_at_places : FnZ P w K mg base [] "at_places" 2 6 F_at_places) {f : Addr} {fd : FuncData} (F : Fun K "_law_pairs_right" "_law_pairs_right" (top 36) f fd) (B : Binds K fd ["deck", "line", "names", "many"] []) (m : mg "_law_pairs_right" = some (.ref f)) : FnZ P w K mg base [] "_law_pairs_right" 4 7 F__law_pairs_right :=
  ⟨f, fd, ["deck", "line", "names", "many"], rfl, ok__law_pairs_right g h__law_one h_ahead_in h_at_places F, m, F.kp, B⟩
/-! ### law -/
theorem sc_law : FnScope ["script", "cell", "deck", "line", "names", "many", "at", "row", "table", "name", "told", "spots", "first", "last", "place", "k", "one"] ["script"] (defScope (top 37)) := ⟨rfl, rfl, rfl, by decide +kernel, rfl, by decide +kernel, by decide +kernel⟩
noncomputable def d_law : DS := (dSeq (dFor (iAny (dSl (dBin oAdd (dLst (dCons (dLit (.int 0)) dNil)) (dVar 0)) dNo (dPart (dLit (.int 8))))) (gSet 1) (dSeq (dSet 2 (dCall 2 F__law_deck (dCons (dVar 1) (dCons (dLit (.int 6)) dNil))))
    (dSeq (dSet 3 (dCall 3 F__law_line (dCons (dVar 2) (dCons (dLit (.int 30)) (dCons (dCall 2 F__law_one (dCons (dVar 2) (dCons (dLst (dCons (dLit (.int 2)) (dCons (dLit (.int 9)) (dCons (dLit (.int 99)) dNil)))) dNil))) dNil)))))
    (dSeq (dPar 4 5 (dCons (dLc (iAny (dVar 3)) (gSet 7) dYes (dBin oIx (dVar 7) (dLit (.int 0))) [7]) (dCons (dLit (.int 1)) dNil)))
    (dSeq (dFor (iEnu (dConsX (dVar 3) dNil)) (gTupZ (gAnd (gSet 6) (gAnd (gSet 7) gNon))) (dSet 5 (dBin oMulG (dVar 5) (dBin oAdd (dLit (.int 1)) (dFn fMin (dConsX (dBin oIx (dVar 7) (dLit (.int 1))) (dConsX (dBin oSub (dBin oSub (dFn fLen (dConsX (dVar 3) dNil)) (dLit (.int 1))) (dVar 6)) dNil)))))))
    (dSeq (dIfS (dNotT (dTst (dCall 2 F__law_same (dCons (dCall 1 F_how_many (dCons (dVar 3) dNil)) (dCons (dVar 5) dNil))))) (dRet (dLit (.bl false))) dSkip)
    (dSeq (dSet 8 (dLst dNil))
    (dSeq (dFor (iAny (dVar 4)) (gSet 9) (dSeq (dSet 10 (dCall 2 F_at_places (dCons (dVar 3) (dCons (dVar 9) dNil))))
    (dSeq (dDrop (dMeth .list mAppend (dVar 8) (dCons (dVar 10) dNil)))
    (dSeq (dIfS (dOrT (dTst (dBin oNe (dFn fSum (dConsX (dVar 10) dNil)) (dVar 5))) (dTst (dBin oLt (dFn fMin (dConsX (dVar 10) dNil)) (dLit (.int 0))))) (dRet (dLit (.bl false))) dSkip)
    (dSeq (dSet 11 (dLc (iEnu (dConsX (dVar 10) dNil)) (gTupZ (gAnd (gSet 15) (gAnd (gSet 16) gNon))) (dTst (dBin oGt (dVar 16) (dLit (.int 0)))) (dVar 15) [15, 16]))
    (dSeq (dAsg (gTupZ (gAnd (gSet 12) (gAnd (gSet 13) gNon))) (dCall 2 F_ends (dCons (dVar 3) (dCons (dVar 9) dNil))))
    (dSeq (dIfS (dOrT (dNotT (dTst (dCall 2 F__law_comes (dCons (dVar 3) (dCons (dVar 12) dNil))))) (dNotT (dTst (dCall 2 F__law_comes (dCons (dVar 3) (dCons (dVar 13) dNil)))))) (dRet (dLit (.bl false))) dSkip)
    (dIfS (dTst (dBin oNe (dTup (dCons (dMeth2 mIndex (dVar 12) (dCons (dVar 9) dNil)) (dCons (dMeth2 mIndex (dVar 13) (dCons (dVar 9) dNil)) dNil))) (dTup (dCons (dBin oIx (dVar 11) (dLit (.int 0))) (dCons (dBin oIx (dVar 11) (dUn oNeg (dLit (.int 1)))) dNil))))) (dRet (dLit (.bl false))) dSkip))))))))
    (dSeq (dFor (iRan1 (dCons (dFn fLen (dConsX (dVar 4) dNil)) dNil)) (gSet 14) (dIfS (dTst (dBin oNe (dFn fSum (dConsX (dLc (iAny (dVar 8)) (gSet 7) dYes (dBin oIx (dVar 7) (dVar 14)) [7]) dNil)) (dVar 5))) (dRet (dLit (.bl false))) dSkip))
    (dIfS (dNotT (dTst (dCall 4 F__law_pairs_right (dCons (dVar 2) (dCons (dVar 3) (dCons (dVar 4) (dCons (dVar 5) dNil))))))) (dRet (dLit (.bl false))) dSkip))))))))))
    (dRet (dLit (.bl true))))
noncomputable def F_law : PF := mkFn 17 d_law
theorem b_law (g : Gm mg t_LETTERS t_MOST_FOLK t_MOST_LETS) (h__law_deck : FnZ P w K mg base [] "_law_deck" 2 1 F__law_deck) (h__law_line : FnZ P w K mg base [] "_law_line" 3 4 F__law_line) (h__law_one : FnZ P w K mg base [] "_law_one" 2 2 F__law_one) (h__law_same : FnZ P w K mg base [] "_law_same" 2 4 F__law_same) (h_at_places : FnZ P w K mg base [] "at_places" 2 6 F_at_places) (h_ends : FnZ P w K mg base [] "ends" 2 6 F_ends) (h__law_pairs_right : FnZ P w K mg base [] "_law_pairs_right" 4 7 F__law_pairs_right) (h_how_many : FnZ P w K mg base [] "how_many" 1 5 F_how_many) (h__law_comes : FnZ P w K mg base [] "_law_comes" 2 2 F__law_comes) {f : Addr} (cdv : Value) (A : Around) (outer : List Env) (s : Shared) (H : Hp) (E : XK) (hr : Room 7 (A.deeper (envOfC "law" (defScope (top 37)) s.heap.objs.size f cdv))) :
    ZSs (cxOf CX0 P w K mg base ["script", "cell", "deck", "line", "names", "many", "at", "row", "table", "name", "told", "spots", "first", "last", "place", "k", "one"] "law" (defScope (top 37)) f cdv A outer s H E).nox [] W0 (defBody (top 37)) d_law :=
  (zss_cons (zs_for PassesOwn.never rfl (zi_any (ze_sl (ze_bin oz_add (ze_lst (za_cons ze_int za_nil)) (zv 0)) zo_none (zo_some ze_int))) (zg 1 sc_law.nd) (zss_cons (zset 2 sc_law.nd (ze_call h__law_deck (hr.mono (by omega)) (by rfl) (za_cons (zv 1) (za_cons ze_int za_nil))))
    (zss_cons (zset 3 sc_law.nd (ze_call h__law_line (hr.mono (by omega)) (by rfl) (za_cons (zv 2) (za_cons ze_int (za_cons (ze_call h__law_one (hr.mono (by omega)) (by rfl) (za_cons (zv 2) (za_cons (ze_lst (za_cons ze_int (za_cons ze_int (za_cons ze_int za_nil)))) za_nil))) za_nil)))))
    (zss_cons (zs_par (i := 4) (j := 5) rfl sc_law.nd rfl rfl (by decide) rfl rfl (za_cons (ze_lc (own := [("row", 7)]) rfl sc_law.nd (zi_any (zv 3)) (blkOk_by (N := ["script", "cell", "deck", "line", "names", "many", "at", "row", "table", "name", "told", "spots", "first", "last", "place", "k", "one"]) (sc := defScope (top 37)) (by decide +kernel)) (by decide) (fun _ _ _ _ _ => (zg 7 sc_law.nd)) (fun _ _ _ _ _ => zts_nil) (fun _ _ _ _ _ => (ze_ix (zv 7) ze_int))) (za_cons ze_int za_nil)) (by with_unfolding_all rfl))
    (zss_cons (zs_for PassesOwn.never rfl (zi_enu (by rfl) g.z_enumerate (zx_cons (zv 3) zx_nil)) (zg_tup rfl (zgs_cons (zg 6 sc_law.nd) (zgs_cons (zg 7 sc_law.nd) zgs_nil))) (zss_one (zset 5 sc_law.nd (ze_bin oz_mulG (zv 5) (ze_bin oz_add ze_int (ze_callB (cz_min (by rfl)) (by rfl) g.z_min (by decide +kernel) (zx_cons (ze_ix (zv 7) ze_int) (zx_cons (ze_bin oz_sub (ze_bin oz_sub (ze_callB cz_len (by rfl) g.z_len (by decide +kernel) (zx_cons (zv 3) zx_nil)) ze_int) (zv 6)) zx_nil))))))))
    (zss_cons (zs_if (zt_not (zt_val (ze_call h__law_same (hr.mono (by omega)) (by rfl) (za_cons (ze_call h_how_many (hr.mono (by omega)) (by rfl) (za_cons (zv 3) za_nil)) (za_cons (zv 5) za_nil))))) (zss_one (zs_ret ze_bl)) zss_nil)
    (zss_cons (zset 8 sc_law.nd (ze_lst za_nil))
    (zss_cons (zs_for PassesOwn.never rfl (zi_any (zv 4)) (zg 9 sc_law.nd) (zss_cons (zset 10 sc_law.nd (ze_call h_at_places (hr.mono (by omega)) (by rfl) (za_cons (zv 3) (za_cons (zv 9) za_nil))))
    (zss_cons (zs_expr (ze_meth (B := .list) PySem.F.plainAttrs_list PySem.F.slot_list_append PySem.F.type_list_append mz_append rfl (zv 8) (za_cons (zv 10) za_nil)))
    (zss_cons (zs_if (zt_w (zw_or (zt_cmp (oz_ne (hu64 hr)) (ze_callB (cz_sum (by rfl)) (by rfl) g.z_sum (by decide +kernel) (zx_cons (zv 10) zx_nil)) (zv 5) (by first | exact nomark _ | with_unfolding_all rfl)) (zw_or1 (zt_cmp oz_lt (ze_callB (cz_min (by rfl)) (by rfl) g.z_min (by decide +kernel) (zx_cons (zv 10) zx_nil)) ze_int (by first | exact nomark _ | with_unfolding_all rfl))))) (zss_one (zs_ret ze_bl)) zss_nil)
    (zss_cons (zs_setLc (i := 11) (own := [("k", 15), ("one", 16)]) rfl sc_law.nd rfl rfl (sw_true rfl rfl rfl rfl) (zi_enu (by rfl) g.z_enumerate (zx_cons (zv 10) zx_nil)) (blkOk_by (N := ["script", "cell", "deck", "line", "names", "many", "at", "row", "table", "name", "told", "spots", "first", "last", "place", "k", "one"]) (sc := defScope (top 37)) (by decide +kernel)) (by decide) (fun _ _ _ _ _ => (zg_tup rfl (zgs_cons (zg 15 sc_law.nd) (zgs_cons (zg 16 sc_law.nd) zgs_nil)))) (fun _ _ _ _ _ => (zts_one (zt_cmp oz_gt (zv 16) ze_int (by first | exact nomark _ | with_unfolding_all rfl)))) (fun _ _ _ _ _ => (zv 15)))
    (zss_cons (zs_asg (zg_tup rfl (zgs_cons (zg 12 sc_law.nd) (zgs_cons (zg 13 sc_law.nd) zgs_nil))) gTupZ_tup (ze_call h_ends (hr.mono (by omega)) (by rfl) (za_cons (zv 3) (za_cons (zv 9) za_nil))))
    (zss_cons (zs_if (zt_w (zw_or (zt_not (zt_val (ze_call h__law_comes (hr.mono (by omega)) (by rfl) (za_cons (zv 3) (za_cons (zv 12) za_nil))))) (zw_or1 (zt_not (zt_val (ze_call h__law_comes (hr.mono (by omega)) (by rfl) (za_cons (zv 3) (za_cons (zv 13) za_nil)))))))) (zss_one (zs_ret ze_bl)) zss_nil)
    (zss_one (zs_if (zt_cmp (oz_ne (hu64 hr)) (ze_tup (za_cons (ze_meth2 PySem.F.slot_list_index PySem.F.type_list_index PySem.F.slot_tuple_index PySem.F.type_tuple_index (mz_index_list (hu65 hr)) (mz_index_tuple (hu65 hr)) (zv 12) (za_cons (zv 9) za_nil)) (za_cons (ze_meth2 PySem.F.slot_list_index PySem.F.type_list_index PySem.F.slot_tuple_index PySem.F.type_tuple_index (mz_index_list (hu65 hr)) (mz_index_tuple (hu65 hr)) (zv 13) (za_cons (zv 9) za_nil)) za_nil))) (ze_tup (za_cons (ze_ix (zv 11) ze_int) (za_cons (ze_ix (zv 11) (ze_un oz_neg ze_int)) za_nil))) (by first | exact nomark _ | with_unfolding_all rfl)) (zss_one (zs_ret ze_bl)) zss_nil)))))))))
    (zss_cons (zs_for PassesOwn.never rfl (zi_range1 (by rfl) g.z_range (za_cons (ze_callB cz_len (by rfl) g.z_len (by decide +kernel) (zx_cons (zv 4) zx_nil)) za_nil)) (zg 14 sc_law.nd) (zss_one (zs_if (zt_cmp (oz_ne (hu64 hr)) (ze_callB (cz_sum (by rfl)) (by rfl) g.z_sum (by decide +kernel) (zx_cons (ze_lc (own := [("row", 7)]) rfl sc_law.nd (zi_any (zv 8)) (blkOk_by (N := ["script", "cell", "deck", "line", "names", "many", "at", "row", "table", "name", "told", "spots", "first", "last", "place", "k", "one"]) (sc := defScope (top 37)) (by decide +kernel)) (by decide) (fun _ _ _ _ _ => (zg 7 sc_law.nd)) (fun _ _ _ _ _ => zts_nil) (fun _ _ _ _ _ => (ze_ix (zv 7) (zv 14)))) zx_nil)) (zv 5) (by first | exact nomark _ | with_unfolding_all rfl)) (zss_one (zs_ret ze_bl)) zss_nil)))
    (zss_one (zs_if (zt_not (zt_val (ze_call h__law_pairs_right (hr.mono (by omega)) (by rfl) (za_cons (zv 2) (za_cons (zv 3) (za_cons (zv 4) (za_cons (zv 5) za_nil))))))) (zss_one (zs_ret ze_bl)) zss_nil)))))))))))
    (zss_one (zs_ret ze_bl)))
theorem ok_law (g : Gm mg t_LETTERS t_MOST_FOLK t_MOST_LETS) (h__law_deck : FnZ P w K mg base [] "_law_deck" 2 1 F__law_deck) (h__law_line : FnZ P w K mg base [] "_law_line" 3 4 F__law_line) (h__law_one : FnZ P w K mg base [] "_law_one" 2 2 F__law_one) (h__law_same : FnZ P w K mg base [] "_law_same" 2 4 F__law_same) (h_at_places : FnZ P w K mg base [] "at_places" 2 6 F_at_places) (h_ends : FnZ P w K mg base [] "ends" 2 6 F_ends) (h__law_pairs_right : FnZ P w K mg base [] "_law_pairs_right" 4 7 F__law_pairs_right) (h_how_many : FnZ P w K mg base [] "how_many" 1 5 F_how_many) (h__law_comes : FnZ P w K mg base [] "_law_comes" 2 2 F__law_comes) {f : Addr} {fd : FuncData} (F : Fun K "law" "law" (top 37) f fd) : FnOk P w K mg base CX0 8 f fd ["script"] (spZ ⟨K, mg, []⟩ 1 F_law) :=
  fn_ok F sc_law fun cdv A outer s H E hr => b_law g h__law_deck h__law_line h__law_one h__law_same h_at_places h_ends h__law_pairs_right h_how_many h__law_comes cdv A outer s H E hr
theorem f_law (g : Gm mg t_LETTERS t_MOST_FOLK t_MOST_LETS) (h__law_deck : FnZ P w K mg base [] "_law_deck" 2 1 F__law_deck) (h__law_line : FnZ P w K mg base [] "_law_line" 3 4 F__law_line) (h__law_one : FnZ P w K mg base [] "_law_one" 2 2 F__law_one) (h__law_same : FnZ P w K mg base [] "_law_same" 2 4 F__law_same) (h_at_places : FnZ P w K mg base [] "at_places" 2 6 F_at_places) (h_ends : FnZ P w K mg base [] "ends" 2 6 F_ends) (h__law_pairs_right : FnZ P w K mg base [] "_law_pairs_right" 4 7 F__law_pairs_right) (h_how_many : FnZ P w K mg base [] "how_many" 1 5 F_how_many) (h__law_comes : FnZ P w K mg base [] "_law_comes" 2 2 F__law_comes) {f : Addr} {fd : FuncData} (F : Fun K "law" "law" (top 37) f fd) (B : Binds K fd ["script"] []) (m : mg "law" = some (.ref f)) : FnZ P w K mg base [] "law" 1 8 F_law :=
  ⟨f, fd, ["script"], rfl, ok_law g h__law_deck h__law_line h__law_one h__law_same h_at_places h_ends h__law_pairs_right h_how_many h__law_comes F, m, F.kp, B⟩
end
end My

set_option Elab.async false
set_option linter.all false
set_option maxRecDepth 100000
set_option maxHeartbeats 4000000
namespace My
open PySem Z

/-- a thing that isinstance can be asked of, texts of a size that len can be asked of -/
def ask1 : PV → Bool
  | .str s => decide (s.length ≤ 16777216)
  | .ref .ins _ => false
  | .glo _ => false
  | .tmp _ => false
  | .tmd _ _ => false
  | _ => true
theorem ask_isT {x : PV} (h : ask1 x = true) (T : BT) : ∃ b, isT T x = some b := by
  cases x with
  | ref k n => cases k <;> first | (cases h; done) | exact ⟨_, rfl⟩
  | glo _ => cases h
  | _ => exact ⟨_, rfl⟩
theorem ask_bnd {x : PV} (h : ask1 x = true) (S : Store) : bnd x S = .ok x S := by
  cases x <;> first | rfl | cases h
/-! ### is_from -/
def fromM (lo hi : Int) : PV → Bool
  | .int i => decide (lo ≤ i) && decide (i ≤ hi)
  | _ => false
theorem ev_is_from (x : PV) (lo hi : Int) (S : Store) (hx : ask1 x = true) : F_is_from [x, .int lo, .int hi] S = .ok (.bl (fromM lo hi x)) S := by
  unfold F_is_from mkFn d_is_from
  cases x with
  | int i =>
    by_cases h : lo ≤ i
    · simp [isTs, isT, oLe, cmpI, h, fromM]
    · simp [isTs, isT, oLe, cmpI, h, fromM]
  | ref k n => cases k <;> first | (cases hx; done) | simp [isTs, isT, fromM]
  | glo _ => cases hx
  | _ => simp [isTs, isT, fromM]
/-! ### is_name -/
def letter (c : Nat) : Bool := decide (97 ≤ c) && decide (c ≤ 122)
def nameM : PV → Bool
  | .str s => decide (1 ≤ s.length) && decide (s.length ≤ 8) && s.cps.toList.all letter
  | _ => false
theorem in_letters (c : Nat) : decide (c ∈ ("abcdefghijklmnopqrstuvwxyz" : Str).cps.toList) = letter c := by
  have e : ("abcdefghijklmnopqrstuvwxyz" : Str).cps.toList = [97,98,99,100,101,102,103,104,105,106,107,108,109,110,111,112,113,114,115,116,117,118,119,120,121,122] := by decide +kernel
  rw [e]
  unfold letter
  simp only [List.mem_cons, List.not_mem_nil, or_false]
  by_cases h1 : 97 ≤ c
  · by_cases h2 : c ≤ 122
    · simp only [h1, h2, decide_true, Bool.and_self, decide_eq_true_eq]; omega
    · simp only [h1, h2, decide_true, decide_false, Bool.and_false, decide_eq_false_iff_not]; omega
  · simp only [h1, decide_false, Bool.false_and, decide_eq_false_iff_not]; omega
theorem len_cps (s : Str) : s.length = s.cps.toList.length := by simp [Str.length]
theorem ev_is_name (x : PV) (S : Store) (hx : ask1 x = true) : F_is_name [x] S = .ok (.bl (nameM x)) S := by
  unfold F_is_name mkFn d_is_name
  cases x with
  | str s =>
    have hs : s.length ≤ 16777216 := by simpa [ask1] using hx
    have hlc : dLc (iAny (dVar 0)) (gSet 1) dYes (dBin oIn (dVar 1) (dLit (.str "abcdefghijklmnopqrstuvwxyz"))) [1] [some (.str s), none] S = .ok (.tmp ((chars s).map fun y => match y with | .str z => .bl (letter (z.cps.getD 0 0)) | y => y)) S := by
      refine dLc_map (f := fun _ => some (chars s)) (all := chars s) (by simp [iAny]) rfl _ (fun y hy => ?_) (by rw [len_cps] at hs; simpa [chars] using hs)
      simp only [chars, List.mem_map] at hy
      obtain ⟨c, hc, rfl⟩ := hy
      refine ⟨_, rfl, ?_, rfl⟩
      simp [oIn, inD]
      have := in_letters c
      simpa using this
    have hall : (List.map (fun y => match y with | PV.str z => PV.bl (letter (z.cps.getD 0 0)) | y => y) (chars s)) = (s.cps.toList.map letter).map PV.bl := by
      simp [chars, List.map_map]
    rw [hall] at hlc
    by_cases h1 : (1 : Int) ≤ s.length
    · by_cases h2 : (s.length : Int) ≤ 8
      · have h1' : 1 ≤ s.length := by omega
        have h2' : s.length ≤ 8 := by omega
        simp [isTs, isT, fLen, hs, oLe, cmpI, h1, h2, hlc, fAll, lstOf, nameM, h1', h2', List.all_map, Function.comp_def]
      · have h2' : ¬ s.length ≤ 8 := by omega
        simp [isTs, isT, fLen, hs, oLe, cmpI, h1, h2, nameM, h2']
    · have h1' : ¬ 1 ≤ s.length := by omega
      simp [isTs, isT, fLen, hs, oLe, cmpI, h1, nameM, h1']
  | ref k n => cases k <;> first | (cases hx; done) | simp [isTs, isT, nameM]
  | glo _ => cases hx
  | _ => simp [isTs, isT, nameM]
/-! ### are_names -/
theorem all_name_strs : ∀ {xs : List PV}, xs.all nameM = true → ∃ ss : List Str, xs = ss.map .str
  | [], _ => ⟨[], rfl⟩
  | x :: xs, h => by
    simp only [List.all_cons, Bool.and_eq_true] at h
    obtain ⟨ss, rfl⟩ := all_name_strs h.2
    cases x with
    | str s => exact ⟨s :: ss, rfl⟩
    | _ => cases h.1
theorem count_nodup : ∀ (ss : List Str), (ss.all fun s => decide (ss.countP (· == s) = 1)) = decide ss.Nodup := fun ss => by
  have key : (∀ s ∈ ss, ss.countP (· == s) = 1) ↔ ss.Nodup := by
    constructor
    · intro h
      refine List.nodup_iff_count.mpr fun a => ?_
      by_cases ha : a ∈ ss
      · exact Nat.le_of_eq (h a ha)
      · rw [List.count_eq_zero_of_not_mem ha]; omega
    · intro h s hs
      have h1 := List.nodup_iff_count.mp h s
      have h2 : 0 < ss.count s := List.count_pos_iff.mpr hs
      show ss.count s = 1
      omega
  by_cases hn : ss.Nodup
  · rw [decide_eq_true hn]
    exact List.all_eq_true.mpr fun s hs => decide_eq_true (key.mpr hn s hs)
  · rw [decide_eq_false hn]
    cases e : ss.all fun s => decide (ss.countP (· == s) = 1) with
    | false => rfl
    | true => exact absurd (key.mp fun s hs => of_decide_eq_true (List.all_eq_true.mp e s hs)) hn
def ndM (xs : List PV) : Bool := match strsOf xs with | some ss => decide ss.Nodup | none => false
def namesM : PV → Bool
  | .tup xs => decide (1 ≤ xs.length) && decide (xs.length ≤ 30) && xs.all nameM && ndM xs
  | _ => false
theorem count_str (S : Store) (ss : List Str) (s : Str) : mCount (.tup (ss.map .str)) [.str s] S = some (.int (ss.countP (· == s) : Nat), S) := by
  have h1 : dat S (.str s) = some (.str s) := rfl
  have h2 : dats S (ss.map .str) = some (ss.map .str) := datsB_strs ss
  have h3 := depthAll_strs ss
  have hd : min (PyData.depthAll (ss.map .str)) (PyData.str s).depth ≤ 64 := by omega
  simp only [mCount, seqOf, Option.bind_some, hitsD, h1, h2]
  rw [if_pos hd]
  simp only [Option.map_some, List.countP_map]
  rfl
theorem ev_are_names (x : PV) (S : Store) (h0 : ask1 x = true) (hx : ∀ xs, x = .tup xs → xs.length ≤ 1000000 ∧ ∀ y ∈ xs, ask1 y = true) : F_are_names [x] S = .ok (.bl (namesM x)) S := by
  unfold F_are_names mkFn d_are_names
  cases x with
  | tup xs =>
    obtain ⟨hl, hy⟩ := hx xs rfl
    by_cases h1 : 1 ≤ xs.length
    · by_cases h2 : xs.length ≤ 30
      · have h1' : (1 : Int) ≤ xs.length := by omega
        have h2' : (xs.length : Int) ≤ 30 := by omega
        have hlc : dLc (iAny (dVar 0)) (gSet 1) dYes (dCall 1 F_is_name (dCons (dVar 1) dNil)) [1] [some (.tup xs), none] S = .ok (.tmp (xs.map fun y => .bl (nameM y))) S := by
          refine dLc_map (f := seqOf (.tup xs)) (all := xs) (by simp [iAny, seqOf]) rfl _ (fun y hm => ⟨_, rfl, ?_, rfl⟩) (by omega)
          simp [ask_bnd (hy y hm), ev_is_name y S (hy y hm)]
        by_cases h3 : xs.all nameM = true
        · obtain ⟨ss, rfl⟩ := all_name_strs h3
          have hl2 : dLc (iAny (dVar 0)) (gSet 1) dYes (dBin oEq (dMeth2 mCount (dVar 0) (dCons (dVar 1) dNil)) (dLit (.int 1))) [1] [some (.tup (ss.map .str)), none] S = .ok (.tmp ((ss.map PV.str).map fun y => match y with | PV.str s => PV.bl (decide (ss.countP (· == s) = 1)) | y => y)) S := by
            refine dLc_map (f := seqOf (.tup (ss.map .str))) (all := ss.map .str) (by simp [iAny, seqOf]) rfl _ (fun y hm => ?_) (by omega)
            obtain ⟨s, hs, rfl⟩ := List.mem_map.mp hm
            refine ⟨_, rfl, ?_, rfl⟩
            have hc := count_str S ss s
            have e : decide (((ss.countP (· == s) : Nat) : Int) = 1) = decide (ss.countP (· == s) = 1) := by
              by_cases q : ss.countP (· == s) = 1
              · rw [q]; rfl
              · rw [decide_eq_false q, decide_eq_false (by omega)]
            simp [hc, e]
          have e2 : ((ss.map PV.str).map fun y => match y with | .str s => PV.bl (decide (ss.countP (· == s) = 1)) | y => y) = ss.map fun s => PV.bl (decide (ss.countP (· == s) = 1)) := by simp [List.map_map, Function.comp_def]
          rw [e2] at hl2
          have e3 := count_nodup ss
          have h1s : 1 ≤ ss.length := by simpa using h1
          have h2s : ss.length ≤ 30 := by simpa using h2
          have h3' : (ss.all fun y => nameM (.str y)) = true := by simpa [List.all_map, Function.comp_def] using h3
          have h1z : (1 : Int) ≤ ss.length := by omega
          have h2z : (ss.length : Int) ≤ 30 := by omega
          rw [show (ss.map PV.str).map (fun y => PV.bl (nameM y)) = ss.map fun s => PV.bl (nameM (.str s)) by simp [List.map_map, Function.comp_def]] at hlc
          simp [isTs, hlc, hl2, namesM, h1s, h2s, h1z, h2z, ndM, List.all_map, Function.comp_def, h3', e3]
        · have h3' : xs.all nameM = false := by simpa using h3
          simp [isTs, hlc, namesM, h1, h2, h1', h2', h3']
      · have h2' : ¬ (xs.length : Int) ≤ 30 := by omega
        have h1' : (1 : Int) ≤ xs.length := by omega
        simp [isTs, isT, fLen, seqOf, oLe, cmpI, h1, h2', h1', namesM, h2]
    · have h1' : ¬ (1 : Int) ≤ xs.length := by omega
      simp [isTs, isT, fLen, seqOf, oLe, cmpI, h1, h1', namesM]
  | ref k n => cases k <;> first | (cases h0; done) | simp [isTs, isT, namesM]
  | glo _ => cases h0
  | _ => simp [isTs, isT, namesM]
/-! ### is_line -/
def rowM : PV → Bool
  | .tup [_, _] => true
  | _ => false
def rowN : PV → PV
  | .tup (a :: _) => a
  | _ => .non
def rowL : PV → PV
  | .tup (_ :: b :: _) => b
  | _ => .non
def lineM : PV → Bool
  | .tup rows => rows.all rowM && namesM (.tup (rows.map rowN)) && rows.all fun r => fromM 0 99 (rowL r)
  | _ => false
/-- things that the two readings of a line can be asked of -/
def ok2 (x : PV) : Prop := ask1 x = true ∧ ∀ xs, x = .tup xs → xs.length ≤ 1000000 ∧ ∀ r ∈ xs, ask1 r = true ∧ ∀ ys, r = .tup ys → ∀ y ∈ ys, ask1 y = true
theorem row_of {r : PV} (h : rowM r = true) : ∃ a b, r = .tup [a, b] := by
  unfold rowM at h
  split at h
  · exact ⟨_, _, rfl⟩
  · cases h
theorem isTs_tuple (r : PV) (S : Store) (h : ask1 r = true) : isTs [.tuple] r = some (match r with | .tup _ => true | _ => false) := by
  cases r with
  | ref k n => cases k <;> first | (cases h; done) | rfl
  | glo _ => cases h
  | _ => rfl
theorem ev_is_line (x : PV) (S : Store) (hx : ok2 x) : F_is_line [x] S = .ok (.bl (lineM x)) S := by
  obtain ⟨h0, hx⟩ := hx
  unfold F_is_line mkFn d_is_line
  cases x with
  | tup rows =>
    obtain ⟨hl, hr⟩ := hx rows rfl
    have hlc : dLc (iAny (dVar 0)) (gSet 1) dYes (dAnd (dIsi [.tuple] (dVar 1)) (dBin oEq (dFn fLen (dConsX (dVar 1) dNil)) (dLit (.int 2)))) [1] [some (.tup rows), none] S = .ok (.tmp (rows.map fun r => .bl (rowM r))) S := by
      refine dLc_map (f := seqOf (.tup rows)) (all := rows) (by simp [iAny]) rfl _ (fun r hm => ⟨_, rfl, ?_, rfl⟩) (by omega)
      obtain ⟨h1, h2⟩ := hr r hm
      have ht := isTs_tuple r S h1
      cases r with
      | tup ys =>
        match ys with
        | [] => simp [ht, rowM]
        | [a] => simp [ht, rowM]
        | [a, b] => simp [ht, rowM]
        | a :: b :: c :: d =>
          have : ¬ ((d.length : Int) + 1 + 1 + 1 = 2) := by omega
          simp [ht, rowM, this]
      | _ => simp [ht, rowM]
    by_cases h1 : rows.all rowM = true
    · have hrow : ∀ r ∈ rows, ∃ a b, r = .tup [a, b] := fun r hm => row_of (List.all_eq_true.mp h1 r hm)
      have hl2 : dLc (iAny (dVar 0)) (gSet 1) dYes (dBin oIx (dVar 1) (dLit (.int 0))) [1] [some (.tup rows), none] S = .ok (.tmp (rows.map rowN)) S := by
        refine dLc_map (f := seqOf (.tup rows)) (all := rows) (by simp [iAny]) rfl _ (fun r hm => ⟨_, rfl, ?_, ?_⟩) (by omega)
        · obtain ⟨a, b, rfl⟩ := hrow r hm
          simp [oIx, atP, L2.atI, L2.ixN, rowN]
        · obtain ⟨a, b, rfl⟩ := hrow r hm
          exact ask_bnd ((hr _ hm).2 _ rfl a (by simp)) S
      have hn : F_are_names [.tup (rows.map rowN)] S = .ok (.bl (namesM (.tup (rows.map rowN)))) S := by
        refine ev_are_names _ S rfl fun xs e => ?_
        cases e
        refine ⟨by simpa using hl, fun y hy => ?_⟩
        obtain ⟨r, hm, rfl⟩ := List.mem_map.mp hy
        obtain ⟨a, b, rfl⟩ := hrow r hm
        exact (hr _ hm).2 _ rfl a (by simp)
      have hl3 : dLc (iAny (dVar 0)) (gSet 1) dYes (dCall 3 F_is_from (dCons (dBin oIx (dVar 1) (dLit (.int 1))) (dCons (dLit (.int 0)) (dCons (dLit (.int 99)) dNil)))) [1] [some (.tup rows), none] S = .ok (.tmp (rows.map fun r => .bl (fromM 0 99 (rowL r)))) S := by
        refine dLc_map (f := seqOf (.tup rows)) (all := rows) (by simp [iAny]) rfl _ (fun r hm => ⟨_, rfl, ?_, rfl⟩) (by omega)
        obtain ⟨a, b, rfl⟩ := hrow r hm
        have hb := (hr _ hm).2 _ rfl b (by simp)
        simp [oIx, atP, L2.atI, L2.ixN, rowL, ask_bnd hb, ev_is_from b 0 99 S hb]
      by_cases h2 : namesM (.tup (rows.map rowN)) = true
      · simp [isTs, hlc, h1, hl2, hl3, fTuple, hn, h2, lineM]
      · simp only [Bool.not_eq_true] at h2
        simp [isTs, hlc, h1, hl2, fTuple, hn, h2, lineM]
    · simp only [Bool.not_eq_true] at h1
      simp [isTs, hlc, h1, lineM]
  | ref k n => cases k <;> first | (cases h0; done) | simp [isTs, isT, lineM]
  | glo _ => cases h0
  | _ => simp [isTs, isT, lineM]
/-! ### orders -/
def rowP (p : Str × Int) : PV := .tup [.str p.1, .int p.2]
def lineP (L : List (Str × Int)) : PV := .tup (L.map rowP)
def Line (L : List (Str × Int)) : Prop := 1 ≤ L.length ∧ L.length ≤ 30 ∧ (∀ p ∈ L, nameM (.str p.1) = true ∧ 0 ≤ p.2 ∧ p.2 ≤ 99) ∧ (L.map (·.1)).Nodup
theorem name_len {s : Str} (h : nameM (.str s) = true) : s.length ≤ 8 := by
  simp only [nameM, Bool.and_eq_true, decide_eq_true_eq] at h
  exact h.1.2
theorem ok2_line {L : List (Str × Int)} (h : Line L) : ok2 (lineP L) := by
  refine ⟨rfl, fun xs e => ?_⟩
  cases e
  refine ⟨by have := h.2.1; simp; omega, fun r hr => ?_⟩
  obtain ⟨p, hp, rfl⟩ := List.mem_map.mp hr
  refine ⟨rfl, fun ys e y hy => ?_⟩
  cases e
  have hn := name_len (h.2.2.1 p hp).1
  simp only [List.mem_cons, List.not_mem_nil, or_false] at hy
  rcases hy with rfl | rfl
  · simp [ask1]; omega
  · rfl
theorem lineM_line {L : List (Str × Int)} (h : Line L) : lineM (lineP L) = true := by
  obtain ⟨h1, h2, h3, h4⟩ := h
  have e1 : (L.map rowP).all rowM = true := by simp [rowP, rowM]
  have e2 : (L.map rowP).map rowN = (L.map (·.1)).map PV.str := by simp [rowP, rowN, List.map_map, Function.comp_def]
  have e3 : ((L.map rowP).all fun r => fromM 0 99 (rowL r)) = true := by
    simp only [List.all_map, List.all_eq_true]
    intro p hp
    have := h3 p hp
    simp [rowP, rowL, fromM, this]
  have e4 : ((L.map (·.1)).map PV.str).all nameM = true := by
    simp only [List.all_map, List.all_eq_true]
    intro p hp
    exact (h3 p hp).1
  have e5 : ndM ((L.map (·.1)).map PV.str) = true := by simp only [ndM, strsOf_map]; exact decide_eq_true h4
  simp only [lineM, lineP, e1, e2, e3, namesM, e4, e5]
  simp [h1, h2]
def strB : PV → Bool
  | .str _ => true
  | _ => false
theorem isTs_str (r : PV) (h : ask1 r = true) : isTs [.str] r = some (strB r) := by
  cases r with
  | ref k n => cases k <;> first | (cases h; done) | rfl
  | glo _ => cases h
  | _ => rfl
theorem all_strs : ∀ {xs : List PV}, xs.all strB = true → ∃ ss : List Str, xs = ss.map .str
  | [], _ => ⟨[], rfl⟩
  | x :: xs, h => by
    simp only [List.all_cons, Bool.and_eq_true] at h
    obtain ⟨ss, rfl⟩ := all_strs h.2
    cases x with
    | str s => exact ⟨s :: ss, rfl⟩
    | _ => cases h.1
def kM (a b : List Str) : Bool := PyData.eqv (.list (a.map .str)) (.list (b.map .str))
theorem eq_strs (a b : List Str) (S : Store) : oEq (.tmp (a.map .str)) (.tmp (b.map .str)) S = some (.bl (kM a b)) := by
  have h1 : dat S (.tmp (a.map .str)) = some (.list (a.map .str)) := by simp [dat, datB, datsB_strs]
  have h2 : dat S (.tmp (b.map .str)) = some (.list (b.map .str)) := by simp [dat, datB, datsB_strs]
  have hd := depthAll_strs a
  have hm := Nat.min_le_left (PyData.list (a.map .str)).depth (PyData.list (b.map .str)).depth
  have hl : (PyData.list (a.map .str)).depth ≤ 2 := by simp only [PyData.depth]; omega
  simp only [oEq, eqD, h1, h2]
  rw [if_pos (by omega)]
  rfl
/-- a thing that may be asked whether it is an order -/
def ok1 (S : Store) (x : PV) : Prop := ask1 x = true ∧ ∀ xs, x = .tup xs → xs.length ≤ 1000000 ∧ ∀ r ∈ xs, ask1 r = true ∧ ∃ d, datB (cellD S 12) r = some d
noncomputable def orderM (L : List (Str × Int)) : PV → Bool
  | .tup xs => match strsOf xs with | some ss => kM (sortS ss) (sortS (L.map (·.1))) | none => false
  | _ => false
theorem strsOf_none : ∀ {xs : List PV}, xs.all strB = false → strsOf xs = none
  | [], h => by cases h
  | x :: xs, h => by
    cases x with
    | str s =>
      simp only [List.all_cons, strB, Bool.true_and] at h
      simp [strsOf, strsOf_none h]
    | _ => rfl
theorem ev_need_line {L : List (Str × Int)} (hL : Line L) (S : Store) : F_need_line [lineP L] S = .ok .non S := by
  unfold F_need_line mkFn d_need_line
  simp [lineP, show F_is_line [.tup (L.map rowP)] S = .ok (.bl true) S by rw [← lineM_line hL]; exact ev_is_line _ S (ok2_line hL)]
end My

set_option Elab.async false
set_option linter.all false
set_option maxRecDepth 100000
set_option maxHeartbeats 4000000
namespace My
open PySem Z
theorem ev_names_of {L : List (Str × Int)} (h30 : L.length ≤ 1000) (S : Store) : F_names_of [lineP L] S = .ok (.tup ((L.map (·.1)).map PV.str)) S := by
  unfold F_names_of mkFn d_names_of
  have hlc : dLc (iAny (dVar 0)) (gTupZ (gAnd (gSet 1) (gAnd (gSet 2) gNon))) dYes (dVar 1) [1, 2] [some (lineP L), none, none] S = .ok (.tmp ((L.map rowP).map rowN)) S := by
    refine dLc_map (f := seqOf (lineP L)) (all := L.map rowP) (by simp [iAny, lineP]) rfl _ (fun r hm => ?_) (by simp; omega)
    obtain ⟨p, hp, rfl⟩ := List.mem_map.mp hm
    exact ⟨_, rfl, by simp [rowN, rowP], rfl⟩
  have e : (L.map rowP).map rowN = (L.map (·.1)).map PV.str := by simp [rowP, rowN, List.map_map, Function.comp_def]
  rw [e] at hlc
  simp only [dRet_eq, dFn_eq, dConsX_eq, dNil_eq]
  simp only [List.length_cons, List.length_nil, List.map_cons, List.map_nil, List.replicate, List.cons_append, List.nil_append]
  rw [hlc]
  simp only [Res.bind_ok, fTuple, seqOf_tmp, Option.map_some, ofO_some]
  exact gc_same (by simp)
end My

set_option Elab.async false
set_option linter.all false
set_option maxRecDepth 100000
set_option maxHeartbeats 4000000
namespace My
open PySem Z
/-! ### the deck -/
structure St (d : Nat) (m : Int) (S : Store) : Prop where
  cl : ∀ (i : Nat) c, S[i]? = some c → cC S.length c = true
  dk : ∃ a b e : Int, S[d]? = some (.lst [.int a, .int b, .int e]) ∧ 0 ≤ a ∧ 0 ≤ b ∧ b < 2147483648 ∧ 0 ≤ e ∧ e ≤ m
def Ev (d : Nat) (S S' : Store) : Prop := (∀ (i : Nat) c, i ≠ d → S[i]? = some c → S'[i]? = some c) ∧ S.length ≤ S'.length
theorem Ev.refl {d : Nat} {S : Store} : Ev d S S := ⟨fun _ _ _ h => h, Nat.le_refl _⟩
theorem Ev.trans {d : Nat} {S S1 S2 : Store} (a : Ev d S S1) (b : Ev d S1 S2) : Ev d S S2 := ⟨fun i c h e => b.1 i c h (a.1 i c h e), Nat.le_trans a.2 b.2⟩
theorem St.lt {d : Nat} {m : Int} {S : Store} (h : St d m S) : d < S.length := by
  obtain ⟨a, b, e, h1, _⟩ := h.dk
  exact (List.getElem?_eq_some_iff.mp h1).1
theorem St.mono {d : Nat} {m m' : Int} {S : Store} (h : St d m S) (hm : m ≤ m') : St d m' S := by
  obtain ⟨a, b, e, h1, h2, h3, h4, h5, h6⟩ := h.dk
  exact ⟨h.cl, a, b, e, h1, h2, h3, h4, h5, by omega⟩
theorem Ev.set {d : Nat} {S : Store} {c : Cell} : Ev d S (S.set d c) := ⟨fun i c h e => by rw [List.getElem?_set_ne (Ne.symm h)]; exact e, by simp⟩
theorem St.set {d : Nat} {m m' : Int} {S : Store} (h : St d m S) {a b e : Int} (h2 : 0 ≤ a) (h3 : 0 ≤ b) (h4 : b < 2147483648) (h5 : 0 ≤ e) (h6 : e ≤ m') : St d m' (S.set d (.lst [.int a, .int b, .int e])) where
  cl := fun i c hc => by
    rw [List.length_set]
    by_cases q : d = i
    · subst q
      rw [List.getElem?_set_self h.lt] at hc
      cases hc
      rfl
    · rw [List.getElem?_set_ne q] at hc
      exact h.cl i c hc
  dk := ⟨a, b, e, by rw [List.getElem?_set_self h.lt], h2, h3, h4, h5, h6⟩
/-- what a def's end makes of a changed deck -/
theorem gc_set {d : Nat} {S : Store} {ys : List Int} {x : PV} (hx : cV S.length x = true) : gc S x (S.set d (.lst (ys.map PV.int))) = .ok x (S.set d (.lst (ys.map PV.int))) := by
  have hok : GcOk S (S.set d (.lst (ys.map PV.int))) := fun i c hi h => by
    by_cases q : d = i
    · subst q
      rw [List.getElem?_set_self hi] at h
      cases h
      exact .inr (by simp [cC, List.all_map, Function.comp_def])
    · rw [List.getElem?_set_ne q] at h
      exact .inl h
  unfold gc
  rw [outV_closed hx, if_pos ⟨hok, hx⟩, List.take_of_length_le (by simp)]
theorem pow_ok (i j : Int) (S : Store) (h0 : 0 ≤ i) (h1 : i < 9223372036854775808) (h2 : 0 ≤ j) (h3 : j ≤ 1000) : oPow (.int i) (.int j) S = some (.int (i ^ j.toNat)) := by
  have h : i.natAbs < 2 ^ 64 := by
    have : (2 : Nat) ^ 64 = 18446744073709551616 := by decide
    omega
  simp only [oPow]
  rw [if_pos ⟨h2, by omega, h⟩]
theorem mul_ok (i j : Int) (S : Store) (h0 : 0 ≤ i) (h1 : i < 9223372036854775808) : oMulG (.int i) (.int j) S = some (.int (i * j)) := by
  have h : (2 : Int) ^ 64 = 18446744073709551616 := by decide
  refine oMulG_of ?_
  simp only [oMulZ]
  rw [if_pos (.inl ⟨by omega, by omega⟩)]
theorem ix3 (a b e : Int) (S : Store) : oIx (.tup [.int a, .int b, .int e]) (.int 0) S = some (.int a) := by simp [oIx, atP, L2.atI, L2.ixN]
theorem ev_pick {d : Nat} {m n : Int} {S : Store} (h : St d m S) (hm : m < 1073741824) (h0 : 0 < n) (h1 : n < 1073741824) :
    ∃ (r : Int) (S' : Store), F__law_pick [.ref .lst d, .int n] S = .ok (.int r) S' ∧ 0 ≤ r ∧ r < n ∧ Ev d S S' ∧ S'.length = S.length ∧ St d (m + 1) S' := by
  obtain ⟨a, b, e, hS, ha, hb, hb2, he, hem⟩ := h.dk
  have hd := h.lt
  have i0 : ∀ a b e : Int, L2.ixN ([PV.int a, PV.int b, PV.int e]).length 0 = some 0 := fun _ _ _ => rfl
  unfold F__law_pick mkFn d__law_pick
  by_cases c : a > 1
  · refine ⟨a % n, S.set d (.lst [.int (a / n), .int b, .int e]), ?_, Int.emod_nonneg _ (by omega), Int.emod_lt_of_pos _ h0, Ev.set, by simp, h.set (Int.ediv_nonneg ha (by omega)) hb hb2 he (by omega)⟩
    have g := gc_set (d := d) (S := S) (ys := [a / n, b, e]) (x := .int (a % n)) rfl
    simp only [List.map_cons, List.map_nil] at g
    simp [oIx, seqOf_ref, hS, atP, L2.atI, L2.ixN, c, oMod, h0, oFdiv, h1, oSetL, g]
  · have hn1 : 0 ≤ (b + 15485867 * (e + 1)) ^ (5 : Int).toNat % 2147483647 := Int.emod_nonneg _ (by decide)
    have hn2 : (b + 15485867 * (e + 1)) ^ (5 : Int).toNat % 2147483647 < 2147483647 := Int.emod_lt_of_pos _ (by decide)
    have p1 := pow_ok (b + 15485867 * (e + 1)) 5 (S.set d (.lst [.int a, .int b, .int (e + 1)])) (by omega) (by omega) (by omega) (by omega)
    generalize (b + 15485867 * (e + 1)) ^ (5 : Int).toNat = N at p1 hn1 hn2
    have p2 := pow_ok (N % 2147483647 + 7919 * (e + 1)) 3 (S.set d (.lst [.int a, .int b, .int (e + 1)])) (by omega) (by omega) (by omega) (by omega)
    generalize (N % 2147483647 + 7919 * (e + 1)) ^ (3 : Int).toNat = N2 at p2
    have m1 := mul_ok 15485867 (e + 1) (S.set d (.lst [.int a, .int b, .int (e + 1)])) (by omega) (by omega)
    have m2 := mul_ok 7919 (e + 1) (S.set d (.lst [.int a, .int b, .int (e + 1)])) (by omega) (by omega)
    refine ⟨N2 % 2147483629 / 32 % n, S.set d (.lst [.int a, .int b, .int (e + 1)]), ?_, Int.emod_nonneg _ (by omega), Int.emod_lt_of_pos _ h0, Ev.set, by simp, h.set ha hb hb2 (by omega) (by omega)⟩
    have g := gc_set (d := d) (S := S) (ys := [a, b, e + 1]) (x := .int (N2 % 2147483629 / 32 % n)) rfl
    simp only [List.map_cons, List.map_nil] at g
    simp [oIx, seqOf_ref, hS, atP, L2.atI, L2.ixN, c, oMod, h0, oFdiv, h1, oSetL, g, List.getElem?_set_self hd, p1, p2, m1, m2]
/-! ### things of all kinds -/
def leafP (c : Nat) : PV → Prop
  | .non => True
  | .bl _ => True
  | .int i => i.natAbs ≤ 10 ^ 30 + c
  | .str s => s.length ≤ 16777216
  | _ => False
def IsSeq (av : Nat → Prop) (S : Store) (x : PV) (xs : List PV) : Prop := x = .tup xs ∨ ∃ n, ¬ av n ∧ x = .ref .lst n ∧ S[n]? = some (.lst xs)
def Th (av : Nat → Prop) : Nat → Nat → Store → PV → Prop
  | 0, c, _, x => leafP c x
  | k + 1, c, S, x => leafP c x ∨ ∃ xs, IsSeq av S x xs ∧ xs.length ≤ 1000 + c ∧ ∀ y ∈ xs, Th av k c S y
def ThX (av : Nat → Prop) (k c : Nat) (S : Store) (x : PV) : Prop := Th av k c S x ∨ ∃ k' xs, k = k' + 1 ∧ x = .tmp xs ∧ xs.length ≤ 1000 + c ∧ ∀ y ∈ xs, Th av k' c S y
section
variable {d k c : Nat} {av : Nat → Prop} {S S1 : Store} {x : PV} {xs : List PV} {m : Int}
theorem Th.leaf (h : leafP c x) : Th av k c S x := by cases k with | zero => exact h | succ k => exact .inl h
theorem IsSeq.ev (h : IsSeq av S x xs) (e : Ev d S S1) (ha : av d) : IsSeq av S1 x xs := by
  rcases h with h | ⟨n, h1, h2, h3⟩
  · exact .inl h
  · exact .inr ⟨n, h1, h2, e.1 _ _ (fun z => h1 (z ▸ ha)) h3⟩
theorem Th.ev : ∀ {k : Nat} {x : PV}, Th av k c S x → Ev d S S1 → av d → Th av k c S1 x
  | 0, _, h, _, _ => h
  | k + 1, _, .inl h, _, _ => .inl h
  | k + 1, _, .inr ⟨xs, h1, h2, h3⟩, e, ha => .inr ⟨xs, h1.ev e ha, h2, fun y hy => Th.ev (h3 y hy) e ha⟩
theorem leafP.mono {c c' : Nat} (h : leafP c x) (hc : c ≤ c') : leafP c' x := by
  cases x <;> first | exact h | (simp only [leafP] at h ⊢; omega)
theorem Th.mono : ∀ {k k' c c' : Nat} {x : PV}, Th av k c S x → k ≤ k' → c ≤ c' → Th av k' c' S x
  | 0, k', _, _, _, h, _, hc => Th.leaf (leafP.mono (show leafP _ _ from h) hc)
  | k + 1, 0, _, _, _, _, hk, _ => absurd hk (by omega)
  | k + 1, k' + 1, _, _, _, .inl h, _, hc => .inl (h.mono hc)
  | k + 1, k' + 1, _, _, _, .inr ⟨xs, h1, h2, h3⟩, hk, hc => .inr ⟨xs, h1, by omega, fun y hy => Th.mono (h3 y hy) (by omega) hc⟩
theorem IsSeq.closed (h : IsSeq av S x xs) (hx : ∀ y ∈ xs, cV S.length y = true) : cV S.length x = true := by
  rcases h with rfl | ⟨n, h1, rfl, h3⟩
  · simpa using hx
  · simpa using (List.getElem?_eq_some_iff.mp h3).1
theorem leafP.closed (h : leafP c x) {n : Nat} : cV n x = true := by cases x <;> first | rfl | exact h.elim
theorem Th.closed : ∀ {k : Nat} {x : PV}, Th av k c S x → cV S.length x = true
  | 0, _, h => leafP.closed (c := c) h
  | k + 1, _, .inl h => h.closed
  | k + 1, _, .inr ⟨xs, h1, _, h3⟩ => h1.closed fun y hy => Th.closed (h3 y hy)
theorem leafP.ask (h : leafP c x) : ask1 x = true := by
  cases x <;> first | rfl | exact h.elim | (simp only [leafP] at h; simp [ask1, h])
theorem Th.ask : ∀ {k : Nat} {x : PV}, Th av k c S x → ask1 x = true
  | 0, _, h => leafP.ask (c := c) h
  | k + 1, _, .inl h => h.ask
  | k + 1, _, .inr ⟨xs, h1, _, _⟩ => by rcases h1 with rfl | ⟨n, _, rfl, _⟩ <;> rfl
theorem Th.tup (h : Th av k c S (.tup xs)) : xs.length ≤ 1000 + c ∧ ∃ k', k = k' + 1 ∧ ∀ y ∈ xs, Th av k' c S y := by
  cases k with
  | zero => exact h.elim
  | succ k =>
    rcases h with h | ⟨ys, h1, h2, h3⟩
    · exact h.elim
    · rcases h1 with h1 | ⟨n, _, h1, _⟩
      · cases h1; exact ⟨h2, k, rfl, h3⟩
      · cases h1
theorem Th.ok2 (h : Th av k c S x) (hc : c ≤ 1000) : ok2 x := by
  refine ⟨h.ask, fun xs e => ?_⟩
  subst e
  obtain ⟨h1, k', _, h2⟩ := h.tup
  refine ⟨by omega, fun r hr => ⟨(h2 r hr).ask, fun ys e y hy => ?_⟩⟩
  subst e
  obtain ⟨_, k'', _, h3⟩ := (h2 _ hr).tup
  exact (h3 y hy).ask
theorem leafP.dat (h : leafP c x) (g : Nat → Option PyData) : ∃ e, datB g x = some e := by cases x <;> first | exact ⟨_, rfl⟩ | exact h.elim
theorem Th.dat : ∀ {k : Nat} {x : PV} (j : Nat), Th av k c S x → k ≤ j → ∃ e, datB (cellD S j) x = some e
  | 0, _, j, h, _ => leafP.dat (c := c) h _
  | k + 1, _, j, .inl h, _ => h.dat _
  | k + 1, _, j, .inr ⟨xs, h1, _, h3⟩, hj => by
    rcases h1 with rfl | ⟨n, _, rfl, h4⟩
    · obtain ⟨ds, hd⟩ := datsB_all (g := cellD S j) (xs := xs) fun y hy => Th.dat j (h3 y hy) (by omega)
      exact ⟨.tuple ds, by simp [datB, hd]⟩
    · cases j with
      | zero => omega
      | succ j =>
        obtain ⟨ds, hd⟩ := datsB_all (g := cellD S j) (xs := xs) fun y hy => Th.dat j (h3 y hy) (by omega)
        refine ⟨.list ds, ?_⟩
        show cellD S (j + 1) n = _
        rw [cellD, h4]
        simp [hd]
theorem Th.ok1 (h : Th av k c S x) (hc : c ≤ 1000) (hk : k ≤ 12) : ok1 S x := by
  refine ⟨h.ask, fun xs e => ?_⟩
  subst e
  obtain ⟨h1, k', rfl, h2⟩ := h.tup
  exact ⟨by omega, fun r hr => ⟨(h2 r hr).ask, (h2 r hr).dat 12 (by omega)⟩⟩
/-! ### at a def's end, and when bound -/
mutual
theorem cV_mono {n n' : Nat} (h : n ≤ n') : ∀ {x : PV}, cV n x = true → cV n' x = true
  | .non, _ => rfl | .bl _, _ => rfl | .int _, _ => rfl | .str _, _ => rfl | .glo _, _ => rfl
  | .tup xs, q => by simp only [cV] at q ⊢; exact cVs_mono h q
  | .frz xs, q => by simp only [cV] at q ⊢; exact cVs_mono h q
  | .tmp xs, q => by simp only [cV] at q ⊢; exact cVs_mono h q
  | .tmd _ xs, q => by simp only [cV] at q ⊢; exact cVs_mono h q
  | .ref _ i, q => by simp only [cV, decide_eq_true_eq] at q ⊢; omega
theorem cVs_mono {n n' : Nat} (h : n ≤ n') : ∀ {xs : List PV}, cVs n xs = true → cVs n' xs = true
  | [], _ => rfl
  | x :: xs, q => by
    simp only [cVs, Bool.and_eq_true] at q ⊢
    exact ⟨cV_mono h q.1, cVs_mono h q.2⟩
end
theorem cC_mono {n n' : Nat} (h : n ≤ n') : ∀ {c : Cell}, cC n c = true → cC n' c = true
  | .lst _, q => cVs_mono h q
  | .dic _ _, q => cVs_mono h q
  | .lck _ _, q => cVs_mono h q
  | .ins _ fs, q => by
    simp only [cC, List.all_eq_true] at q ⊢
    exact fun p hp => cV_mono h (q p hp)
theorem Ev.app {E : Store} : Ev d S (S ++ E) := ⟨fun i c _ h => by rw [List.getElem?_append_left (List.getElem?_eq_some_iff.mp h).1]; exact h, by simp⟩
theorem St.app {E : Store} (h : St d m S) (hE : ∀ c ∈ E, cC (S ++ E).length c = true) : St d m (S ++ E) where
  cl := fun i c hc => by
    by_cases hi : i < S.length
    · rw [List.getElem?_append_left hi] at hc
      exact cC_mono (by simp) (h.cl i c hc)
    · rw [List.getElem?_append_right (by omega)] at hc
      exact hE c (List.mem_of_getElem? hc)
  dk := by
    obtain ⟨a, b, e, h1, r⟩ := h.dk
    exact ⟨a, b, e, by rw [List.getElem?_append_left h.lt]; exact h1, r⟩
theorem Th.take {n : Nat} (hall : ∀ (i : Nat) c, (S1.take n)[i]? = some c → cC n c = true) : ∀ {k : Nat} {x : PV}, cV n x = true → Th av k c S1 x → Th av k c (S1.take n) x
  | 0, _, _, h => h
  | k + 1, _, _, .inl h => .inl h
  | k + 1, _, hx, .inr ⟨xs, h1, h2, h3⟩ => by
    rcases h1 with rfl | ⟨i, h4, rfl, h5⟩
    · have hx' : ∀ y ∈ xs, cV n y = true := by simpa using hx
      exact .inr ⟨xs, .inl rfl, h2, fun y hy => Th.take hall (hx' y hy) (h3 y hy)⟩
    · have hi : i < n := by simpa using hx
      have h6 : (S1.take n)[i]? = some (.lst xs) := by rw [List.getElem?_take, if_pos hi]; exact h5
      have hx' : ∀ y ∈ xs, cV n y = true := by simpa [cC] using hall i _ h6
      exact .inr ⟨xs, .inr ⟨i, h4, rfl, h6⟩, h2, fun y hy => Th.take hall (hx' y hy) (h3 y hy)⟩
theorem gc_th {m0 : Int} (hS : St d m0 S) (h1 : St d m S1) (ev : Ev d S S1) (hx : Th av k c S1 x) : ∃ x' S', gc S x S1 = .ok x' S' ∧ Ev d S S' ∧ St d m S' ∧ ThX av k c S' x' := by
  unfold gc
  split
  · rename_i hg
    have hall : ∀ (i : Nat) c, (S1.take S.length)[i]? = some c → cC S.length c = true := fun i c hc => by
      have hi : i < S.length := by
        have := (List.getElem?_eq_some_iff.mp hc).1
        rw [List.length_take] at this; omega
      rw [List.getElem?_take, if_pos hi] at hc
      rcases hg.1 i c hi hc with q | q
      · exact hS.cl i c q
      · exact q
    have hlen : (S1.take S.length).length = S.length := by rw [List.length_take]; have := ev.2; omega
    refine ⟨_, _, rfl, ⟨fun i c hi h => ?_, by rw [hlen]; exact Nat.le_refl _⟩, ⟨fun i c hc => by rw [hlen]; exact hall i c hc, ?_⟩, ?_⟩
    · rw [List.getElem?_take, if_pos (List.getElem?_eq_some_iff.mp h).1]
      exact ev.1 i c hi h
    · obtain ⟨a, b, e, h2, r⟩ := h1.dk
      exact ⟨a, b, e, by rw [List.getElem?_take, if_pos hS.lt]; exact h2, r⟩
    · have keep : outV S.length x S1 = x → ThX av k c (S1.take S.length) (outV S.length x S1) := fun e => by
        have hc := hg.2
        rw [e] at hc ⊢
        exact .inl (Th.take hall hc hx)
      cases x with
      | ref kd i =>
        cases kd with
        | lst =>
          by_cases hi : S.length ≤ i
          · cases k with
            | zero => exact hx.elim
            | succ k =>
              rcases hx with h | ⟨xs, h2, h3, h4⟩
              · exact h.elim
              · rcases h2 with h2 | ⟨n, h5, h6, h7⟩
                · cases h2
                · cases h6
                  have e : outV S.length (.ref .lst i) S1 = .tmp xs := by simp [outV, hi, h7]
                  have hc := hg.2
                  rw [e] at hc ⊢
                  have hc' : ∀ y ∈ xs, cV S.length y = true := by simpa using hc
                  exact .inr ⟨k, xs, rfl, rfl, h3, fun y hy => Th.take hall (hc' y hy) (h4 y hy)⟩
          · exact keep (by simp [outV, hi])
        | dic => cases k <;> first | exact hx.elim | (rcases hx with h | ⟨xs, h | ⟨n, _, h, _⟩, _⟩ <;> cases h)
        | ins => cases k <;> first | exact hx.elim | (rcases hx with h | ⟨xs, h | ⟨n, _, h, _⟩, _⟩ <;> cases h)
      | _ => exact keep rfl
  · exact ⟨x, S1, rfl, ev, h1, .inl hx⟩
theorem bnd_th (h1 : St d m S) (ha : av d) (hv : ∀ i, av i → i < S.length) (hx : ThX av k c S x) : ∃ y S', bnd x S = .ok y S' ∧ Ev d S S' ∧ St d m S' ∧ Th av k c S' y := by
  rcases hx with hx | ⟨k', xs, rfl, rfl, hl, hy⟩
  · exact ⟨x, S, ask_bnd hx.ask S, Ev.refl, h1, hx⟩
  · refine ⟨_, _, rfl, Ev.app, h1.app fun c hc => ?_, .inr ⟨xs, .inr ⟨S.length, fun z => absurd (hv _ z) (Nat.lt_irrefl _), rfl, by simp⟩, hl, fun y hm => (hy y hm).ev (Ev.app (d := d)) ha⟩⟩
    simp only [List.mem_singleton] at hc
    subst hc
    simp only [cC, cVs_all, List.all_eq_true]
    exact fun y hm => cV_mono (by simp) (hy y hm).closed
theorem IsSeq.seqOf (h : IsSeq av S x xs) : seqOf x S = some xs := by
  rcases h with rfl | ⟨n, _, rfl, h⟩
  · rfl
  · simp [h]
theorem IsSeq.len (h : IsSeq av S x xs) : fLen [x] S = some (.int xs.length) := by
  rcases h with rfl | ⟨n, _, rfl, h⟩
  · rfl
  · exact fLen_ref h
theorem IsSeq.bnd (h : IsSeq av S x xs) (S' : Store) : bnd x S' = .ok x S' := by
  rcases h with rfl | ⟨n, _, rfl, h⟩ <;> rfl
theorem IsSeq.ix (h : IsSeq av S x xs) (i : Int) : oIx x (.int i) S = atP xs i := by
  rcases h with rfl | ⟨n, _, rfl, h⟩
  · simp [oIx]
  · simp [oIx, h]
theorem atP_nat {r : Int} (h0 : 0 ≤ r) (h1 : r < xs.length) : ∃ y, atP xs r = some y ∧ y ∈ xs := by
  have hn : r.toNat < xs.length := by omega
  refine ⟨xs[r.toNat], ?_, List.getElem_mem hn⟩
  have : L2.ixN xs.length r = some r.toNat := by
    unfold L2.ixN
    rw [if_pos h0, if_pos h1]
  unfold atP L2.atI
  rw [this]
  simp [hn]
theorem ev_one {d : Nat} {m : Int} {S : Store} {s : PV} {xs : List PV} (h : St d m S) (hm : m < 1073741824) {av : Nat → Prop} (ha : av d) (hs : IsSeq av S s xs) (h0 : xs ≠ []) (h1 : xs.length < 1073741824) (hc : ∀ y ∈ xs, cV S.length y = true) :
    ∃ (y : PV) (S' : Store), F__law_one [.ref .lst d, s] S = .ok y S' ∧ y ∈ xs ∧ Ev d S S' ∧ S'.length = S.length ∧ St d (m + 1) S' := by
  have hl : 0 < xs.length := List.length_pos_iff.mpr h0
  obtain ⟨r, S1, e1, r0, r1, ev, len, st⟩ := ev_pick (n := xs.length) h hm (by omega) (by omega)
  obtain ⟨y, hy, hym⟩ := atP_nat r0 r1
  have hx := (hs.ev ev ha).ix r
  have hcy := hc y hym
  refine ⟨y, S1, ?_, hym, ev, len, st⟩
  unfold F__law_one mkFn d__law_one
  have g : gc S y S1 = .ok y S1 := by
    unfold gc
    rw [outV_closed hcy]
    split
    · rw [List.take_of_length_le (by omega)]
    · rfl
  simp [hs.len, hs.bnd, e1, hx, hy, g]
end
end My

set_option Elab.async false
set_option linter.all false
set_option maxRecDepth 100000
set_option maxHeartbeats 4000000
namespace My
open PySem Z
section
variable {d k c : Nat} {av : Nat → Prop} {S S1 : Store} {x : PV} {xs : List PV} {m : Int}
theorem St.setCell (h : St d m S) {R : Nat} (hR : R ≠ d) {cl : Cell} (hc : cC S.length cl = true) : St d m (S.set R cl) where
  cl := fun i e he => by
    rw [List.length_set]
    by_cases q : R = i
    · subst q
      have hl : R < S.length := by have := (List.getElem?_eq_some_iff.mp he).1; simpa using this
      rw [List.getElem?_set_self hl] at he
      cases he
      exact hc
    · rw [List.getElem?_set_ne q] at he
      exact h.cl i e he
  dk := by
    obtain ⟨a, b, e, h1, r⟩ := h.dk
    exact ⟨a, b, e, by rw [List.getElem?_set_ne hR]; exact h1, r⟩
theorem Th.setCell {R : Nat} (hR : av R) {cl : Cell} : ∀ {k : Nat} {x : PV}, Th av k c S x → Th av k c (S.set R cl) x
  | 0, _, h => h
  | k + 1, _, .inl h => .inl h
  | k + 1, _, .inr ⟨xs, h1, h2, h3⟩ => by
    refine .inr ⟨xs, ?_, h2, fun y hy => Th.setCell hR (h3 y hy)⟩
    rcases h1 with h1 | ⟨n, h4, h5, h6⟩
    · exact .inl h1
    · exact .inr ⟨n, h4, h5, by rw [List.getElem?_set_ne (fun (z : R = n) => h4 (z ▸ hR))]; exact h6⟩
theorem Th.less {av' : Nat → Prop} (h : ∀ i, av' i → av i) : ∀ {k : Nat} {x : PV}, Th av k c S x → Th av' k c S x
  | 0, _, q => q
  | k + 1, _, .inl q => .inl q
  | k + 1, _, .inr ⟨xs, h1, h2, h3⟩ => by
    refine .inr ⟨xs, ?_, h2, fun y hy => Th.less h (h3 y hy)⟩
    rcases h1 with h1 | ⟨n, h4, h5, h6⟩
    · exact .inl h1
    · exact .inr ⟨n, fun z => h4 (h _ z), h5, h6⟩
/-- more is avoided: what was not there -/
theorem Th.more {n0 : Nat} (hn : S.length ≤ n0) : ∀ {k : Nat} {x : PV}, Th av k c S x → Th (fun i => av i ∨ i = n0) k c S x
  | 0, _, q => q
  | k + 1, _, .inl q => .inl q
  | k + 1, _, .inr ⟨xs, h1, h2, h3⟩ => by
    refine .inr ⟨xs, ?_, h2, fun y hy => Th.more hn (h3 y hy)⟩
    rcases h1 with h1 | ⟨n, h4, h5, h6⟩
    · exact .inl h1
    · refine .inr ⟨n, fun z => ?_, h5, h6⟩
      have := (List.getElem?_eq_some_iff.mp h6).1
      rcases z with z | z
      · exact h4 z
      · omega
theorem Th.seq (h : ∀ y ∈ xs, Th av k c S y) (hl : xs.length ≤ 1000 + c) : Th av (k + 1) c S (.tup xs) := .inr ⟨xs, .inl rfl, hl, h⟩
theorem cutP_sub (xs : List PV) (lo hi : Option Int) : ∀ y ∈ cutP xs lo hi, y ∈ xs := fun y hy => List.mem_of_mem_drop (List.mem_of_mem_take hy)
theorem cutP_len (xs : List PV) (lo hi : Option Int) : (cutP xs lo hi).length ≤ xs.length := by unfold cutP; simp; omega
theorem cut1_len (xs : List PV) : (cutP xs none (some 1)).length ≤ 1 := by
  unfold cutP
  rw [List.length_take]
  have : HT.sIx xs.length xs.length (some 1) ≤ 1 := by
    show HT.sIx xs.length xs.length (some ((1 : Nat) : Int)) ≤ 1
    rw [HT.sIx_nat]
    exact Nat.min_le_left _ _
  omega
end
/-- but for the deck and the new things all is as it was -/
theorem gc_gnd {d : Nat} {m0 m : Int} {S S1 : Store} {x : PV} (hS : St d m0 S) (h1 : St d m S1) (hl : S.length ≤ S1.length) (hg : ∀ n, cV n x = true) :
    ∃ S', gc S x S1 = .ok x S' ∧ St d m S' ∧ S.length ≤ S'.length ∧ ∀ i, i < S.length → S'[i]? = S1[i]? := by
  unfold gc
  rw [outV_closed (hg _)]
  split
  · rename_i hgc
    have hlen : (S1.take S.length).length = S.length := by rw [List.length_take]; omega
    refine ⟨_, rfl, ⟨fun i c hc => ?_, ?_⟩, by rw [hlen]; exact Nat.le_refl _, fun i hi => by rw [List.getElem?_take, if_pos hi]⟩
    · rw [hlen]
      have hi : i < S.length := by
        have := (List.getElem?_eq_some_iff.mp hc).1
        rw [hlen] at this; exact this
      rw [List.getElem?_take, if_pos hi] at hc
      rcases hgc.1 i c hi hc with q | q
      · exact hS.cl i c q
      · exact q
    · obtain ⟨a, b, e, h2, r⟩ := h1.dk
      exact ⟨a, b, e, by rw [List.getElem?_take, if_pos hS.lt]; exact h2, r⟩
  · exact ⟨S1, rfl, h1, hl, fun _ _ => rfl⟩
theorem map_erase {α β : Type} (f : α → β) : ∀ (l : List α) (i : Nat), (l.map f).eraseIdx i = (l.eraseIdx i).map f
  | [], i => by simp
  | x :: l, 0 => by simp
  | x :: l, i + 1 => by simp [map_erase f l i]
theorem erase_perm {α : Type} : ∀ (l : List α) (i : Nat) (h : i < l.length), (l[i] :: l.eraseIdx i).Perm l
  | [], i, h => by simp at h
  | x :: l, 0, h => by simp
  | x :: l, i + 1, h => by
    simp only [List.getElem_cons_succ, List.eraseIdx_cons_succ]
    exact (List.Perm.swap x _ _).trans (List.Perm.cons x (erase_perm l i (by simpa using h)))
theorem strs_gnd (ss : List Str) (n : Nat) : cV n (.tup (ss.map .str)) = true := by simp [cV]
theorem cC_strs (ss : List Str) (n : Nat) : cC n (.lst (ss.map .str)) = true := by simp [cC, List.all_map, Function.comp_def]
theorem ne_nil_strs {S : Store} {n : Nat} {ss : List Str} (h : S[n]? = some (.lst (ss.map .str))) : oNe (.ref .lst n) (.tmp []) S = some (.bl (!ss.isEmpty)) := by
  simp only [oNe]
  rw [eqD_nil_ref h (datsB_strs ss)]
  simp
theorem drawn_loop {d L F : Nat} (hLd : L ≠ d) (hFd : F ≠ d) (hLF : L ≠ F) : ∀ (n : Nat) (ss ts : List Str) (S : Store) (m : Int), ss.length = n → S[L]? = some (.lst (ss.map .str)) → S[F]? = some (.lst (ts.map .str)) → St d m S → m + n < 1073741824 → ts.length + n ≤ 1000 →
    ∃ (us : List Str) (S' : Store), dWhile (dTst (dBin oNe (dVar 1) (dLst dNil))) (dDrop (dMeth .list mAppend (dVar 2) (dCons (dMeth .list mPop (dVar 1) (dCons (dCall 2 F__law_pick (dCons (dVar 0) (dCons (dFn fLen (dConsX (dVar 1) dNil)) dNil))) dNil)) dNil))) [some (.ref .lst d), some (.ref .lst L), some (.ref .lst F)] S = .ok (.nx [some (.ref .lst d), some (.ref .lst L), some (.ref .lst F)]) S'
      ∧ us.Perm (ts ++ ss) ∧ S'[F]? = some (.lst (us.map .str)) ∧ St d (m + n) S' ∧ (∀ i, i ≠ d → i ≠ L → i ≠ F → S'[i]? = S[i]?) ∧ S'.length = S.length
  | 0, ss, ts, S, m, hn, hL, hF, hst, _, _ => by
    have e : ss = [] := List.length_eq_zero_iff.mp hn
    subst e
    refine ⟨ts, S, dWhile_end ?_, by simp, hF, hst.mono (by omega), fun _ _ _ _ => rfl, rfl⟩
    have := ne_nil_strs hL
    simp at this
    simp [this]
  | n + 1, ss, ts, S, m, hn, hL, hF, hst, hm, ht => by
    obtain ⟨r, S1, e1, r0, r1, ev1, len1, st1⟩ := ev_pick (n := ss.length) hst (by omega) (by omega) (by omega)
    have hL1 := ev1.1 _ _ hLd hL
    have hF1 := ev1.1 _ _ hFd hF
    have hj : r.toNat < ss.length := by omega
    have hLl : L < S1.length := (List.getElem?_eq_some_iff.mp hL1).1
    have hFl : F < S1.length := (List.getElem?_eq_some_iff.mp hF1).1
    generalize hS2 : S1.set L (.lst ((ss.eraseIdx r.toNat).map .str)) = S2
    have hF2 : S2[F]? = some (.lst (ts.map .str)) := by rw [← hS2, List.getElem?_set_ne hLF]; exact hF1
    have hL2 : S2[L]? = some (.lst ((ss.eraseIdx r.toNat).map .str)) := by rw [← hS2]; exact List.getElem?_set_self hLl
    generalize hS3 : S2.set F (.lst ((ts ++ [ss[r.toNat]]).map .str)) = S3
    have hF3 : S3[F]? = some (.lst ((ts ++ [ss[r.toNat]]).map .str)) := by rw [← hS3]; exact List.getElem?_set_self (by rw [← hS2]; simpa using hFl)
    have hL3 : S3[L]? = some (.lst ((ss.eraseIdx r.toNat).map .str)) := by rw [← hS3, List.getElem?_set_ne (Ne.symm hLF)]; exact hL2
    have st3 : St d (m + 1) S3 := by
      rw [← hS3, ← hS2]
      exact (st1.setCell hLd (cC_strs _ _)).setCell hFd (cC_strs _ _)
    obtain ⟨us, S4, e4, p4, hF4, st4, fr4, len4⟩ := drawn_loop hLd hFd hLF n (ss.eraseIdx r.toNat) (ts ++ [ss[r.toNat]]) S3 (m + 1) (by rw [List.length_eraseIdx_of_lt hj]; omega) hL3 hF3 st3 (by omega) (by simp; omega)
    refine ⟨us, S4, ?_, ?_, hF4, st4.mono (by omega), fun i h1 h2 h3 => ?_, ?_⟩
    · have hne : ss.isEmpty = false := by cases ss with | nil => cases hn | cons _ _ => rfl
      have hc := ne_nil_strs hL
      rw [hne] at hc
      rw [dWhile_step (S1 := S) (S2 := S3) (ρ2 := [some (.ref .lst d), some (.ref .lst L), some (.ref .lst F)]) (by simp [hc]) (.inl ?_)]
      · exact e4
      · have hix : L2.ixN (ss.map PV.str).length r = some r.toNat := by
          unfold L2.ixN
          rw [List.length_map, if_pos r0, if_pos (by omega)]
        have hpop : mPop (.ref .lst L) [.int r] S1 = some (.str ss[r.toNat], S2) := by
          have h63 : r < 2 ^ 63 := by
            have : (2 : Int) ^ 63 = 9223372036854775808 := by decide
            omega
          have hg : (ss.map PV.str)[r.toNat]? = some (.str ss[r.toNat]) := by simp [hj]
          simp only [mPop, onCell, hL1]
          rw [if_pos h63]
          simp only [hix, Option.bind_some, hg, Option.map_some]
          rw [← hS2, map_erase]
        have happ : mAppend (.ref .lst F) [.str ss[r.toNat]] S2 = some (.non, S3) := by
          simp only [mAppend, onCell, hF2]
          rw [if_pos (by simp; omega), ← hS3]
          simp
        have hlen : fLen [.ref .lst L] S = some (.int ss.length) := by rw [fLen_ref hL]; simp
        simp [hlen, e1, hpop, happ]
    · have q : (ts ++ [ss[r.toNat]] ++ ss.eraseIdx r.toNat).Perm (ts ++ ss) := by
        rw [List.append_assoc]
        refine List.Perm.append_left ts ?_
        exact erase_perm ss r.toNat hj
      exact p4.trans q
    · rw [fr4 i h1 h2 h3, ← hS3, List.getElem?_set_ne (Ne.symm h3), ← hS2, List.getElem?_set_ne (Ne.symm h2)]
      by_cases hi : i < S.length
      · rw [List.getElem?_eq_getElem hi]
        exact ev1.1 i _ h1 (List.getElem?_eq_getElem hi)
      · rw [List.getElem?_eq_none (by omega), List.getElem?_eq_none (by omega)]
    · rw [len4, ← hS3, ← hS2]
      simp [len1]
theorem ev_drawn {d L : Nat} {m : Int} {S : Store} {ss : List Str} (hLd : L ≠ d) (hL : S[L]? = some (.lst (ss.map .str))) (h : St d m S) (hm : m + 1000 < 1073741824) (hl : ss.length ≤ 1000) :
    ∃ (ts : List Str) (S' : Store), F__law_drawn [.ref .lst d, .ref .lst L] S = .ok (.tup (ts.map .str)) S' ∧ ts.Perm ss ∧ St d (m + ss.length) S' ∧ S.length ≤ S'.length ∧ (∀ i, i ≠ d → i ≠ L → i < S.length → S'[i]? = S[i]?) := by
  have hLl : L < S.length := (List.getElem?_eq_some_iff.mp hL).1
  have hdl := h.lt
  generalize hS1 : S ++ [.lst []] = S1
  have st1 : St d m S1 := by
    rw [← hS1]
    refine h.app fun c hc => ?_
    simp only [List.mem_singleton] at hc
    subst hc; rfl
  have hL1 : S1[L]? = some (.lst (ss.map .str)) := by rw [← hS1, List.getElem?_append_left hLl]; exact hL
  have hF1 : S1[S.length]? = some (.lst (([] : List Str).map .str)) := by rw [← hS1]; simp
  obtain ⟨us, S2, e2, p2, hF2, st2, fr2, len2⟩ := drawn_loop hLd (by omega : S.length ≠ d) (by omega) ss.length ss [] S1 m rfl hL1 hF1 st1 (by omega) (by simpa using hl)
  have l1 : S1.length = S.length + 1 := by rw [← hS1]; simp
  obtain ⟨S', g, st', l', fr'⟩ := gc_gnd h st2 (by omega) (strs_gnd us)
  refine ⟨us, S', ?_, by simpa using p2, st', l', fun i h1 h2 h3 => ?_⟩
  · unfold F__law_drawn mkFn d__law_drawn
    simp [hS1, e2, fTuple, hF2, g, -List.map_map]
  · rw [fr' i h3, fr2 i h1 h2 (by omega), ← hS1, List.getElem?_append_left h3]
/-! ### names -/
def low : List Str := ["c","d","e","f","g","h","i","j","k","l","m","n","o","p","q","r","s","t","u","v","w","x","y","z"]
def lowO : List Str := low.map fun c => c ++ ("o" : Str)
def first7 : List Str := ["ann", "bo", "cy", "dee", "eli", "fay", "gus"]
def names31 : List Str := first7 ++ lowO
theorem lowO_len : lowO.length = 24 := by decide +kernel
theorem names_ok : (∀ s ∈ names31, nameM (.str s) = true) ∧ names31.Nodup ∧ names31.length = 31 := by
  refine ⟨?_, ?_, ?_⟩ <;> decide +kernel
theorem ev_names {d : Nat} {m n : Int} {S : Store} (h : St d m S) (hm : m + 2000 < 1073741824) (h0 : 0 ≤ n) :
    ∃ (ts : List Str) (S' : Store), F__law_names [.ref .lst d, .int n] S = .ok (.tup ((ts.take n.toNat).map .str)) S' ∧ ts.Perm names31 ∧ Ev d S S' ∧ St d (m + 31) S' := by
  have hdl := h.lt
  generalize hS1 : S ++ [.lst (names31.map .str)] = S1
  have st1 : St d m S1 := by
    rw [← hS1]
    refine h.app fun c hc => ?_
    simp only [List.mem_singleton] at hc
    subst hc; exact cC_strs _ _
  have hL1 : S1[S.length]? = some (.lst (names31.map .str)) := by rw [← hS1]; simp
  obtain ⟨ts, S2, e2, p2, st2, l2, fr2⟩ := ev_drawn (by omega : S.length ≠ d) hL1 st1 (by omega) (by rw [names_ok.2.2]; omega)
  have l1 : S1.length = S.length + 1 := by rw [← hS1]; simp
  obtain ⟨S', g, st', l', fr'⟩ := gc_gnd h st2 (by omega) (strs_gnd (ts.take n.toNat))
  have hcut : cutP (ts.map PV.str) none (some n) = (ts.take n.toNat).map .str := by
    unfold cutP
    have e1 : HT.sIx (ts.map PV.str).length (ts.map PV.str).length (some n) = min n.toNat (ts.map PV.str).length := by
      obtain ⟨k, rfl⟩ : ∃ k : Nat, n = (k : Int) := ⟨n.toNat, by omega⟩
      rw [HT.sIx_nat]
      simp
    rw [e1, HT.sIx_none]
    simp only [List.drop_zero, Nat.sub_zero]
    rw [List.map_take]
    by_cases q : n.toNat ≤ (ts.map PV.str).length
    · rw [Nat.min_eq_left q]
    · rw [Nat.min_eq_right (by omega), List.take_of_length_le (Nat.le_refl _), List.take_of_length_le (by omega)]
  refine ⟨ts, S', ?_, p2, ⟨fun i c hi hc => ?_, l'⟩, st'.mono (by rw [names_ok.2.2]; omega)⟩
  · have hlc : dLc (iAny (dSl (dVar 2) (dPart (dLit (.int 2))) dNo)) (gSet 4) dYes (dBin oAdd (dVar 4) (dLit (.str "o"))) [4] [some (.ref .lst d), some (.int n), some (.str "abcdefghijklmnopqrstuvwxyz"), none, none] S
        = .ok (.tmp (lowO.map PV.str)) S := by
      have hcs : chars (L2.cutS ("abcdefghijklmnopqrstuvwxyz" : Str) (some 2) none) = low.map PV.str := by
        simp only [chars]
        have : (L2.cutS ("abcdefghijklmnopqrstuvwxyz" : Str) (some 2) none).cps.toList.map (fun c => Str.mk #[c]) = low := by decide +kernel
        rw [← this]
        simp [List.map_map, Function.comp_def]
      have hll : ("abcdefghijklmnopqrstuvwxyz" : Str).length ≤ 16777216 := by decide +kernel
      have := dLc_map (d := iAny (dSl (dVar 2) (dPart (dLit (.int 2))) dNo)) (g := gSet 4) (el := dBin oAdd (dVar 4) (dLit (.str "o"))) (vs := [4]) (ρ := [some (.ref .lst d), some (.int n), some (.str "abcdefghijklmnopqrstuvwxyz"), none, none]) (S := S) (S1 := S)
        (f := fun _ => some (chars (L2.cutS ("abcdefghijklmnopqrstuvwxyz" : Str) (some 2) none))) (all := chars (L2.cutS ("abcdefghijklmnopqrstuvwxyz" : Str) (some 2) none)) (by simp [iAny, slP, hll]) rfl (fun y => match y with | PV.str z => PV.str (z ++ ("o" : Str)) | y => y) (fun y hy => by
          rw [hcs] at hy
          obtain ⟨s, hs, rfl⟩ := List.mem_map.mp hy
          refine ⟨_, rfl, ?_, rfl⟩
          have hsl : s.length + ("o" : Str).length ≤ 16777216 := by
            have : ∀ s ∈ low, s.length + ("o" : Str).length ≤ 16777216 := by decide +kernel
            exact this s hs
          simp [oAdd, hsl]) (by rw [hcs]; simp [low])
      rw [this, hcs]
      simp [lowO, List.map_map, Function.comp_def]
    have hsome : oAdd (.tmp [.str "ann", .str "bo", .str "cy", .str "dee", .str "eli", .str "fay", .str "gus"]) (.tmp (lowO.map PV.str)) S = some (.tmp (names31.map .str)) := by
      simp only [oAdd, lstOf_tmp]
      rw [if_pos (by simp [lowO_len])]
      simp [names31, first7]
    generalize (lowO.map PV.str) = tl at hlc hsome
    unfold F__law_names mkFn d__law_names
    simp [hlc, hsome, hS1, e2, slP, hcut, g, -List.map_map, -List.map_take]
  · have hil := (List.getElem?_eq_some_iff.mp hc).1
    rw [fr' i hil, fr2 i hi (by omega) (by omega), ← hS1, List.getElem?_append_left hil]
    exact hc
theorem lineP_gnd (L : List (Str × Int)) (n : Nat) : cV n (lineP L) = true := by simp [lineP, rowP]
theorem rows_closed (L : List (Str × Int)) (n : Nat) : cC n (.lst (L.map rowP)) = true := by simp [cC, rowP]
theorem ev_line {d : Nat} {m : Int} {S : Store} {am ls : Int} (ha1 : 1 ≤ am) (ha2 : am ≤ 30) (hs1 : 0 ≤ ls) (hs2 : ls ≤ 99) (h : St d m S) (hm : m + 5000 < 1073741824) :
    ∃ (L : List (Str × Int)) (S' : Store), F__law_line [.ref .lst d, .int am, .int ls] S = .ok (lineP L) S' ∧ Line L ∧ (L.length : Int) ≤ am ∧ Ev d S S' ∧ St d (m + 100) S' := by
  obtain ⟨r, S1, e1, r0, r1, ev1, len1, st1⟩ := ev_pick (n := am) h (by omega) (by omega) (by omega)
  obtain ⟨ts, S2, e2, p2, ev2, st2⟩ := ev_names (n := 1 + r) st1 (by omega) (by omega)
  have htl : ts.length = 31 := by rw [p2.length_eq, names_ok.2.2]
  have hal : (ts.take (1 + r).toNat).length = (1 + r).toNat := by rw [List.length_take]; omega
  have hAn : (ts.take (1 + r).toNat).Nodup := ((p2.nodup_iff).mpr names_ok.2.1).sublist (List.take_sublist _ _)
  have hAm : ∀ s ∈ ts.take (1 + r).toNat, nameM (.str s) = true := fun s hs => names_ok.1 s (p2.mem_iff.mp (List.mem_of_mem_take hs))
  generalize hA : ts.take (1 + r).toNat = A at e2 hal hAn hAm
  obtain ⟨ys, S3, e3, L, hL1, hL2, hL3, st3, ev3⟩ := dLc_inv (d := iAny (dVar 3)) (g := gSet 4) (t := dYes) (vs := [4]) (ρ := [some (.ref .lst d), some (.int am), some (.int ls), some (.tup (A.map .str)), none]) (S := S2) (S1 := S2)
    (el := dTup (dCons (dVar 4) (dCons (dCall 2 F__law_one (dCons (dVar 0) (dCons (dLst (dCons (dLit (.int 0)) (dCons (dLit (.int 1)) (dCons (dCall 2 F__law_pick (dCons (dVar 0) (dCons (dBin oAdd (dVar 2) (dLit (.int 1))) dNil))) dNil)))) dNil))) dNil)))
    (f := seqOf (.tup (A.map .str))) (all := A.map .str) (by simp [iAny]) rfl
    (fun l acc S => ∃ L : List (Str × Int), l = L.map (fun p => PV.str p.1) ∧ acc = L.map rowP ∧ (∀ p ∈ L, 0 ≤ p.2 ∧ p.2 ≤ 99) ∧ St d (m + 1 + 31 + 2 * l.length) S ∧ Ev d S2 S)
    (fun _ _ _ _ => rfl) ⟨[], rfl, rfl, by simp, st2.mono (by simp), Ev.refl⟩
    (fun l x rr acc S hx ⟨L, h1, h2, h3, hst, hev⟩ => by
      have hxm : x ∈ A.map PV.str := by rw [← hx]; simp
      have hll : l.length + (rr.length + 1) = A.length := by
        have := congrArg List.length hx
        simpa using this
      obtain ⟨s, hs, rfl⟩ := List.mem_map.mp hxm
      obtain ⟨r2, S4, e4, r20, r21, ev4, len4, st4⟩ := ev_pick (n := ls + 1) hst (by omega) (by omega) (by omega)
      generalize hS5 : S4 ++ [.lst [.int 0, .int 1, .int r2]] = S5
      have st5 : St d (m + 1 + 31 + 2 * l.length + 1) S5 := by
        rw [← hS5]
        refine st4.app fun c hc => ?_
        simp only [List.mem_singleton] at hc
        subst hc; rfl
      have hseq : IsSeq (· = d) S5 (.ref .lst S4.length) [.int 0, .int 1, .int r2] := .inr ⟨_, by have := st4.lt; omega, rfl, by rw [← hS5]; simp⟩
      obtain ⟨y, S6, e6, hy, ev6, len6, st6⟩ := ev_one (av := (· = d)) st5 (by omega) rfl hseq (by simp) (by simp) (by intro y hy; simp only [List.mem_cons, List.not_mem_nil, or_false] at hy; rcases hy with rfl | rfl | rfl <;> rfl)
      obtain ⟨v, rfl, v0, v1⟩ : ∃ v : Int, y = .int v ∧ 0 ≤ v ∧ v ≤ 99 := by
        simp only [List.mem_cons, List.not_mem_nil, or_false] at hy
        rcases hy with rfl | rfl | rfl
        · exact ⟨0, rfl, by omega, by omega⟩
        · exact ⟨1, rfl, by omega, by omega⟩
        · exact ⟨r2, rfl, by omega, by omega⟩
      have hacc : acc.length = l.length := by rw [h2, h1]; simp
      refine ⟨_, true, S, rfl, rfl, fun z => (by cases z), fun _ => ⟨.tup [.str s, .int v], S6, .tup [.str s, .int v], S6, ?_, rfl, by omega, L ++ [(s, v)], ?_, ?_, ?_, st6.mono (by simp; omega), ((hev.trans ev4).trans (by rw [← hS5]; exact Ev.app)).trans ev6⟩⟩
      · simp [e4, hS5, e6]
      · rw [h1]; simp
      · rw [h2]; simp [rowP]
      · intro p hp
        rcases List.mem_append.mp hp with hp | hp
        · exact h3 p hp
        · simp only [List.mem_singleton] at hp
          subst hp
          exact ⟨v0, v1⟩)
  have hLn : L.map (fun p => p.1) = A := by
    have q : A.map PV.str = (L.map (fun p => p.1)).map PV.str := by rw [hL1]; simp [List.map_map, Function.comp_def]
    exact ((List.map_inj_right (fun a b e => by cases e; rfl)).mp q).symm
  have hLl : L.length = A.length := by rw [← hLn]; simp
  subst hL2
  obtain ⟨S', g, st', l', fr'⟩ := gc_gnd (x := lineP L) h st3 ((ev1.trans ev2).trans ev3).2 (lineP_gnd L)
  refine ⟨L, S', ?_, ⟨by omega, by omega, fun p hp => ?_, by rw [hLn]; exact hAn⟩, by omega, ⟨fun i c hi hc => ?_, l'⟩, st'.mono (by simp; omega)⟩
  · unfold F__law_line mkFn d__law_line
    simp only [lineP] at g ⊢
    simp [e1, e2, e3, g, -List.map_map]
  · exact ⟨hAm _ (by rw [← hLn]; exact List.mem_map_of_mem hp), hL3 p hp⟩
  · have hil := (List.getElem?_eq_some_iff.mp hc).1
    rw [fr' i hil]
    exact ((ev1.trans ev2).trans ev3).1 i c hi hc
end My

set_option Elab.async false
set_option linter.all false
set_option maxRecDepth 100000
set_option maxHeartbeats 4000000
namespace My
open PySem Z
theorem any_ok {d : DE} {ρ : LEnv} {S S1 : Store} {x : PV} {xs : List PV} (h : d ρ S = .ok x S1) (hns : ∀ z, x ≠ .str z) (hs : seqOf x S1 = some xs) : iAny d ρ S = .ok (seqOf x) S1 := by
  unfold iAny
  rw [h]
  cases x with
  | str z => exact absurd rfl (hns z)
  | _ => simp only [Res.bind_ok, hs]
theorem sl_lo {d e : DE} {ρ : LEnv} {S S1 S2 : Store} {x y : PV} {k : Int} (h : d ρ S = .ok x S1) (h2 : e ρ S1 = .ok (.int k) S2) (h3 : slP x (some k) none S2 = some y) : dSl d (dPart e) dNo ρ S = .ok y S2 := by
  rw [dSl_eq, h]
  simp only [Res.bind_ok, dPart_eq, h2, dNo_eq, h3, ofO_some]
theorem sl_hi {d e : DE} {ρ : LEnv} {S S1 S2 : Store} {x y : PV} {k : Int} (h : d ρ S = .ok x S1) (h2 : e ρ S1 = .ok (.int k) S2) (h3 : slP x none (some k) S2 = some y) : dSl d dNo (dPart e) ρ S = .ok y S2 := by
  rw [dSl_eq, h]
  simp only [Res.bind_ok, dPart_eq, h2, dNo_eq, h3, ofO_some]
theorem row_ix0 (q : Str × Int) (S : Store) : oIx (rowP q) (.int 0) S = some (.str q.1) := by simp [rowP, oIx, atP, L2.atI, L2.ixN]
theorem row_ix1 (q : Str × Int) (S : Store) : oIx (rowP q) (.int 1) S = some (.int q.2) := by simp [rowP, oIx, atP, L2.atI, L2.ixN]
theorem oIx_ref {S : Store} {R k : Nat} {xs : List PV} {y : PV} (h : S[R]? = some (.lst xs)) (hk : xs[k]? = some y) : oIx (.ref .lst R) (.int (k : Nat)) S = some y := by
  have hl : k < xs.length := (List.getElem?_eq_some_iff.mp hk).1
  have e : L2.ixN xs.length (k : Int) = some k := by
    unfold L2.ixN
    rw [if_pos (by omega), if_pos (by omega)]
    simp
  simp only [oIx, seqOf_ref, h, Option.bind_some, atP, L2.atI, e]
  exact hk
theorem oIx_tup {S : Store} {k : Nat} {xs : List PV} {y : PV} (hk : xs[k]? = some y) : oIx (.tup xs) (.int (k : Nat)) S = some y := by
  have hl : k < xs.length := (List.getElem?_eq_some_iff.mp hk).1
  have e : L2.ixN xs.length (k : Int) = some k := by
    unfold L2.ixN
    rw [if_pos (by omega), if_pos (by omega)]
    simp
  simp only [oIx, seqOf_tup, Option.bind_some, atP, L2.atI, e]
  exact hk
theorem names_rows (L : List (Str × Int)) : (L.map rowP).map rowN = (L.map (·.1)).map PV.str := by simp [rowP, rowN, List.map_map, Function.comp_def]
theorem filt_len (p : Str → Bool) (M : List Str) : (((M.map PV.str).filter fun x => match x with | .str z => p z | _ => false).map fun x => x).length = M.countP p := by
  rw [List.map_id', List.filter_map, List.length_map, List.countP_eq_length_filter]
  rfl
end My

set_option Elab.async false
set_option linter.all false
set_option maxRecDepth 100000
set_option maxHeartbeats 4000000
namespace My
open PySem Z
/-! ### places of names -/
theorem hits_str (S : Store) (s : Str) (ss : List Str) : hitsD S (.str s) (ss.map .str) = some (.str s, ss.map .str) := by
  have h1 : dat S (.str s) = some (.str s) := rfl
  have h2 : dats S (ss.map .str) = some (ss.map .str) := datsB_strs ss
  have h3 := depthAll_strs ss
  unfold hitsD
  rw [h1, h2]
  simp only
  rw [if_pos (by omega)]
theorem eqv_str (a b : Str) : PyData.eqv (.str a) (.str b) = decide (a = b) := rfl
theorem find_idx (s : Str) : ∀ (ss : List Str), s ∈ ss → (ss.map PyData.str).findIdx? (fun y => PyData.eqv y (.str s)) = some (ss.idxOf s)
  | [], h => by cases h
  | x :: ss, h => by
    by_cases e : x = s
    · subst e
      simp [eqv_str, List.findIdx?_cons]
    · have h : s ∈ ss := by
        rcases List.mem_cons.mp h with h | h
        · exact absurd h.symm e
        · exact h
      have ih := find_idx s ss h
      have eb : (x == s) = false := by simpa using e
      rw [List.map_cons, List.findIdx?_cons, ih]
      simp [eqv_str, e, List.idxOf_cons, eb]
theorem place_str (S : Store) {s : Str} {ss : List Str} (h : s ∈ ss) : placeD S (.str s) (ss.map .str) = some (ss.idxOf s) := by
  unfold placeD
  rw [hits_str]
  exact find_idx s ss h
theorem any_str (s : Str) (ss : List Str) : ((ss.map PyData.str).any fun z => PyData.eqv z (.str s)) = decide (s ∈ ss) := by
  induction ss with
  | nil => rfl
  | cons x ss ih =>
    rw [List.map_cons, List.any_cons, ih, eqv_str]
    by_cases e : x = s
    · simp [e]
    · simp [e, Ne.symm e]
theorem index_tup (S : Store) {s : Str} {ss : List Str} (h : s ∈ ss) : mIndex (.tup (ss.map .str)) [.str s] S = some (.int (ss.idxOf s : Nat), S) := by
  simp only [mIndex, seqOf_tup, Option.bind_some, place_str S h, Option.map_some]
theorem index_tmp (S : Store) {s : Str} {ss : List Str} (h : s ∈ ss) : mIndex (.tmp (ss.map .str)) [.str s] S = some (.int (ss.idxOf s : Nat), S) := by
  simp only [mIndex, seqOf_tmp, Option.bind_some, place_str S h, Option.map_some]
theorem in_tup (S : Store) (s : Str) (ss : List Str) : oIn (.str s) (.tup (ss.map .str)) S = some (.bl (decide (s ∈ ss))) := by
  simp only [oIn, inD, seqOf_tup, Option.bind_some, hits_str, Option.map_some, any_str]
theorem cutP_drop (xs : List PV) (k : Nat) : cutP xs (some (k : Int)) none = xs.drop k := by
  unfold cutP
  rw [HT.sIx_nat, HT.sIx_none]
  by_cases h : k ≤ xs.length
  · rw [Nat.min_eq_left h, List.take_of_length_le (by simp)]
  · rw [Nat.min_eq_right (by omega), List.drop_of_length_le (Nat.le_refl _), List.drop_of_length_le (by omega)]
    simp
theorem cutP_take (xs : List PV) (k : Nat) : cutP xs none (some (k : Int)) = xs.take k := by
  unfold cutP
  rw [HT.sIx_nat, HT.sIx_none]
  simp only [List.drop_zero, Nat.sub_zero]
  by_cases h : k ≤ xs.length
  · rw [Nat.min_eq_left h]
  · rw [Nat.min_eq_right (by omega), List.take_of_length_le (Nat.le_refl _), List.take_of_length_le (by omega)]
theorem mem_take_idx {s : Str} : ∀ {O : List Str} {k : Nat}, k ≤ O.length → (s ∈ O.take k ↔ O.idxOf s < k)
  | [], k, h => by
    have : k = 0 := by simpa using h
    subst this
    simp
  | x :: O, 0, h => by simp
  | x :: O, k + 1, h => by
    have ih := mem_take_idx (s := s) (O := O) (k := k) (by simpa using h)
    rw [List.take_succ_cons, List.mem_cons, ih]
    by_cases e : x = s
    · subst e; simp
    · have eb : (x == s) = false := by simpa using e
      rw [List.idxOf_cons]
      simp [eb, Ne.symm e]
theorem pas_get (O : List Str) : ∀ (N : List Str) (i : Nat), (pas O N)[i]? = N[i]?.map fun n => (N.drop (i + 1)).countP fun x => decide (O.idxOf x < O.idxOf n)
  | [], i => by simp [pas]
  | n :: N, 0 => by simp [pas]
  | n :: N, i + 1 => by simpa [pas] using pas_get O N i
/-! ### how many each lets pass -/
end My

set_option Elab.async false
set_option linter.all false
set_option maxRecDepth 100000
set_option maxHeartbeats 4000000
namespace My
open PySem Z
def natP (k : Nat) : PV := .int (k : Int)
@[simp] theorem keyOf_nat (k : Nat) : keyOf (natP k) = some (.inl (k : Int)) := rfl
theorem enum_zip (F : Str × Int → PV) (L : List (Str × Int)) : enumL (L.map F) = L.zipIdx.map fun p => PV.tup [.int (p.2 : Nat), F p.1] := by
  unfold enumL
  apply List.ext_getElem?
  intro i
  rw [List.getElem?_mapIdx, List.getElem?_map, List.getElem?_map, List.getElem?_zipIdx]
  cases L[i]? <;> simp
theorem caps_zip : ∀ (L : List (Str × Int)) (k n : Nat), n = k + L.length → (∀ p ∈ L, 0 ≤ p.2) → (L.zipIdx k).map (fun p => PV.int (min p.1.2 ((n : Int) - 1 - (p.2 : Nat)))) = (capsL L).map natP
  | [], _, _, _, _ => rfl
  | p :: L, k, n, h, h0 => by
    have ih := caps_zip L (k + 1) n (by simp at h; omega) fun q hq => h0 q (List.mem_cons_of_mem _ hq)
    have hp := h0 p List.mem_cons_self
    rw [List.zipIdx_cons, List.map_cons, ih, capsL, List.map_cons]
    congr 1
    simp only [List.length_cons] at h
    simp only [natP]
    congr 1
    omega
theorem ev_caps {L : List (Str × Int)} (hl : L.length ≤ 1000) (h0 : ∀ p ∈ L, 0 ≤ p.2) (S : Store) : F_caps_of [lineP L] S = .ok (.tmp ((capsL L).map natP)) S := by
  have hlc : dLc (iEnu (dConsX (dVar 0) dNil)) (gTupZ (gAnd (gSet 1) (gAnd (gSet 2) gNon))) dYes (dFn fMin (dConsX (dBin oIx (dVar 2) (dLit (.int 1))) (dConsX (dBin oSub (dBin oSub (dFn fLen (dConsX (dVar 0) dNil)) (dLit (.int 1))) (dVar 1)) dNil))) [1, 2] [some (lineP L), none, none] S = .ok (.tmp (L.zipIdx.map fun p => PV.int (min p.1.2 ((L.length : Int) - 1 - (p.2 : Nat))))) S := by
    refine lcM_all (f := fun S => (seqOf (lineP L) S).map enumL) (F := fun p => PV.tup [.int (p.2 : Nat), rowP p.1]) (by simp [iEnu, lineP]) (by simp [lineP, enum_zip]) _ (fun p hp => ⟨_, rfl, ?_, rfl⟩) (by simp; omega)
    simp [rowP, oIx, atP, L2.atI, L2.ixN, lineP, fMin]
  unfold F_caps_of mkFn d_caps_of
  simp only [List.map_cons, List.map_nil, List.length_cons, List.length_nil, List.replicate, List.append_nil, List.cons_append, List.nil_append, Nat.sub_self, Nat.reduceSub, Nat.reduceAdd, dRet_eq, hlc, Res.bind_ok]
  rw [caps_zip L 0 L.length (by simp) h0]
  exact gc_same (by simp [natP])
/-! ### products -/
theorem prod_snoc : ∀ (A : List Nat) (c : Nat), prodN (A ++ [c]) = prodN A * (c + 1)
  | [], c => by simp [prodN]
  | a :: A, c => by rw [List.cons_append, prodN, prod_snoc A c, prodN, Nat.mul_assoc]
theorem prod_lt : ∀ (A : List Nat), (∀ c ∈ A, c ≤ 1000) → prodN A < 2 ^ (10 * A.length + 1)
  | [], _ => by decide
  | a :: A, h => by
    have h1 := prod_lt A fun c hc => h c (List.mem_cons_of_mem _ hc)
    have h2 := h a List.mem_cons_self
    rw [prodN, List.length_cons, show 10 * (A.length + 1) + 1 = 10 + (10 * A.length + 1) by omega, Nat.pow_add]
    exact Nat.mul_lt_mul'' (by omega) h1
theorem log2_small {n b : Nat} (h : n < 2 ^ b) (hb : 0 < b) : n.log2 < b := PySem.Flt.log2_lt_of hb h
theorem log_small (k : Nat) (h : k ≤ 1000000) : k.log2 < 20 := log2_small (by omega) (by omega)
theorem ev_product {R : Nat} {S : Store} {cs : List Nat} (hR : S[R]? = some (.lst (cs.map fun c => natP (c + 1)))) (hc : ∀ c ∈ cs, c ≤ 1000) (hl : cs.length ≤ 1000) : F_product [.ref .lst R] S = .ok (natP (prodN cs)) S := by
  obtain ⟨ρ', S', h1, h2, x, h3⟩ := forM (di := iAny (dVar 0)) (g := gSet 2) (b := dAugP 1 iMulG (dVar 2)) (ρ := [some (.ref .lst R), some (natP 1), none]) (S := S) (S1 := S) (f := seqOf (.ref .lst R)) (xs := cs) (F := fun c => natP (c + 1))
    (by simp [iAny, hR]) (by simp [hR]) (fun A ρ S' => S' = S ∧ ∃ x, ρ = [some (.ref .lst R), some (natP (prodN A)), x]) (fun A ρ S' h => by rw [h.1]; simp [hR]) ⟨rfl, none, rfl⟩ fun A a B ρ S' e ⟨e1, x, e2⟩ => by
      subst e1 e2
      have ha : a ≤ 1000 := hc a (by rw [e]; simp)
      have hA := prod_lt A fun c hm => hc c (by rw [e]; simp [hm])
      have hAl : A.length ≤ 1000 := by rw [e] at hl; simp at hl; omega
      have l1 : (prodN A).log2 < 10 * A.length + 1 := log2_small hA (by omega)
      have l2 : (a + 1).log2 < 20 := log_small _ (by omega)
      refine ⟨_, [some (.ref .lst R), some (natP (prodN (A ++ [a]))), some (natP (a + 1))], S', rfl, .inl ?_, rfl, _, rfl⟩
      have hm : iMulG (natP (prodN A)) (natP (a + 1)) S' = some (natP (prodN (A ++ [a])), S') := by
        simp only [iMulG, natP]
        rw [if_pos (by simp only [Int.natAbs_natCast]; omega), prod_snoc, Int.natCast_mul]
      simp only [dAugP_eq, List.set_cons_succ, List.set_cons_zero, List.getElem?_cons_succ, List.getElem?_cons_zero, dVar_eq, Res.bind_ok, hm]
      rfl
  subst h2 h3
  unfold F_product mkFn d_product
  have e1 : natP 1 = PV.int 1 := rfl
  simp only [List.map_cons, List.map_nil, List.length_cons, List.length_nil, List.replicate, List.append_nil, List.cons_append, List.nil_append, Nat.sub_self, Nat.reduceSub, Nat.reduceAdd, dRet_eq, dSeq_eq, dSet_eq, dLit_eq, Res.bind_ok, bnd_int, List.set_cons_succ, List.set_cons_zero]
  rw [← e1, h1]
  simp only [Res.bind_ok, dVar_eq, List.getElem?_cons_succ, List.getElem?_cons_zero]
  exact gc_same rfl
/-- product([cap + 1 for cap in caps]) -/
theorem ev_prodc {d : DE} {i : Nat} {ρ : LEnv} {S : Store} {x : PV} {cs : List Nat} (hx : d ρ S = .ok x S) (hs : seqOf x S = some (cs.map natP)) (hns : ∀ z, x ≠ .str z) (hi : i < ρ.length) (hc : ∀ c ∈ cs, c ≤ 1000) (hl : cs.length ≤ 1000) :
    dCall 1 F_product (dCons (dLc (iAny d) (gSet i) dYes (dBin oAdd (dVar i) (dLit (.int 1))) [i]) dNil) ρ S = .ok (natP (prodN cs)) (S ++ [.lst (cs.map fun c => natP (c + 1))]) := by
  have hlc : dLc (iAny d) (gSet i) dYes (dBin oAdd (dVar i) (dLit (.int 1))) [i] ρ S = .ok (.tmp (cs.map fun c => natP (c + 1))) S := by
    refine lcM_all (f := seqOf x) (F := natP) ?_ hs _ (fun c hc => ⟨_, rfl, ?_, rfl⟩) (by omega)
    · unfold iAny
      rw [hx]
      simp only [Res.bind_ok]
      cases x with
      | str z => exact absurd rfl (hns z)
      | _ => simp only [hs]
    · have hg : (ρ.set i (some (PV.int (c : Int))))[i]? = some (some (PV.int (c : Int))) := by
        rw [List.getElem?_set]
        simp [hi]
      simp [natP, hg]
  have hp := ev_product (R := S.length) (S := S ++ [.lst (cs.map fun c => natP (c + 1))]) (cs := cs) (by simp) hc hl
  simp only [dCall_eq, dCons_eq, hlc, Res.bind_ok, bnd_tmp, dNil_eq, List.length_cons, List.length_nil, Nat.zero_add, if_true, hp, Res.calm_ok]
theorem caps_le {L : List (Str × Int)} (hl : L.length ≤ 1000) : ∀ c ∈ capsL L, c ≤ 1000 := by
  induction L with
  | nil => simp [capsL]
  | cons p L ih =>
    intro c hc
    simp only [List.length_cons] at hl
    rcases List.mem_cons.mp hc with e | e
    · rw [e]; omega
    · exact ih (by omega) c e
theorem Line.nn {L : List (Str × Int)} (h : Line L) : ∀ p ∈ L, 0 ≤ p.2 := fun p hp => (h.2.2.1 p hp).2.1
theorem Line.len {L : List (Str × Int)} (h : Line L) : L.length ≤ 1000 := by have := h.2.1; omega
theorem ev_how_many {L : List (Str × Int)} (hL : Line L) (S : Store) : F_how_many [lineP L] S = .ok (natP (prodN (capsL L))) S := by
  have hl := hL.len
  have hp := ev_prodc (d := dCall 1 F_caps_of (dCons (dVar 0) dNil)) (i := 1) (ρ := [some (lineP L), none]) (S := S) (x := .tmp ((capsL L).map natP)) (cs := capsL L)
    (by simp [ev_caps hl hL.nn, lineP] at *; have := ev_caps hl hL.nn S; simp only [lineP] at this; simp [this]) rfl (fun z => by simp) (by simp) (caps_le hl) (by rw [capsL_len]; exact hl)
  unfold F_how_many mkFn d_how_many
  have hn : dDrop (dCall 1 F_need_line (dCons (dVar 0) dNil)) [some (lineP L), none] S = .ok (.nx [some (lineP L), none]) S := by
    have := ev_need_line hL S
    simp only [lineP] at this ⊢
    simp [this]
  simp only [List.map_cons, List.map_nil, List.length_cons, List.length_nil, List.replicate, List.append_nil, List.cons_append, List.nil_append, Nat.sub_self, Nat.reduceSub, Nat.reduceAdd, dSeq_eq, hn, Res.bind_ok, dRet_eq, hp]
  exact gc_app rfl
theorem ev_need_name {L : List (Str × Int)} (hL : Line L) {n : Str} (hn : n ∈ L.map (·.1)) (S : Store) : F_need_name [lineP L, .str n] S = .ok .non S := by
  have h1 := ev_need_line hL S
  have h2 := ev_names_of hL.len S
  have h3 : inD S (.str n) (.tup ((L.map (·.1)).map PV.str)) = some true := by
    have e : dats S ((L.map (·.1)).map PV.str) = some ((L.map (·.1)).map PyData.str) := datsB_strs _
    have e2 : dat S (.str n) = some (.str n) := rfl
    have hm : min (PyData.depthAll ((L.map (·.1)).map PyData.str)) (PyData.str n).depth ≤ 64 := by
      have := depthAll_strs (L.map (·.1))
      omega
    simp only [inD, seqOf_tup, Option.bind_some, hitsD, e, e2]
    rw [if_pos hm]
    simp only [Option.map_some]
    congr 1
    rw [List.any_eq_true]
    exact ⟨.str n, List.mem_map.mpr ⟨n, hn, rfl⟩, by simp [PyData.eqv]⟩
  unfold F_need_name mkFn d_need_name
  simp only [lineP] at h1 h2
  simp [lineP, h1, h2, oNotIn, h3, isTs, -List.map_map]
end My

set_option Elab.async false
set_option linter.all false
set_option maxRecDepth 100000
set_option maxHeartbeats 4000000
namespace My
open PySem Z
/-! ### tables as dicts -/
def tbK (D : Tb) : List PV := D.map fun a => natP a.1
def tbV (D : Tb) : List PV := D.map fun a => natP a.2
theorem key_nat (k j : Nat) : (keyOf (natP k) = some (.inl (j : Int))) ↔ k = j := by
  rw [keyOf_nat]
  constructor
  · intro h; injection h with h; injection h with h; omega
  · intro h; rw [h]
theorem look_tb : ∀ (D : Tb) (k : Nat), (lookP (tbK D) (tbV D) (.inl (k : Int))).getD (.int 0) = natP (val D k)
  | [], k => rfl
  | (s, m) :: D, k => by
    simp only [tbK, tbV, List.map_cons, lookP, val]
    by_cases h : s = k
    · rw [if_pos ((key_nat s k).mpr h), if_pos h]; rfl
    · rw [if_neg (fun z => h ((key_nat s k).mp z)), if_neg h]
      exact look_tb D k
theorem any_tb (D : Tb) (k : Nat) : ((tbK D).any fun x => decide (keyOf x = some (.inl (k : Int)))) = decide (k ∈ keysT D) := by
  induction D with
  | nil => rfl
  | cons a D ih =>
    have e : decide (keyOf (natP a.1) = some (.inl (k : Int))) = decide (k = a.1) := by
      by_cases h : k = a.1
      · rw [decide_eq_true h, decide_eq_true ((key_nat _ _).mpr h.symm)]
      · rw [decide_eq_false h, decide_eq_false fun z => h ((key_nat _ _).mp z).symm]
    simp only [tbK, List.map_cons, List.any_cons] at ih ⊢
    rw [ih, e, keysT_cons]
    by_cases h : k = a.1 <;> by_cases h2 : k ∈ keysT D <;> simp [h, h2]
theorem put_tb {D : Tb} (hn : (keysT D).Nodup) (k v : Nat) : putP (tbK D) (tbV D) (.inl (k : Int)) (natP v) = (tbK (putT D k v), tbV (putT D k v)) := by
  unfold putP
  rw [any_tb]
  have kk : tbK (putT D k v) = if k ∈ keysT D then tbK D else tbK D ++ [natP k] := by
    have := congrArg (List.map natP) (keys_put D k v)
    have e : ∀ D : Tb, (keysT D).map natP = tbK D := fun D => by simp [keysT, tbK]
    rw [e] at this
    rw [this]
    split
    · exact e D
    · rw [List.map_append, e]; rfl
  by_cases h : k ∈ keysT D
  · rw [if_pos (decide_eq_true h), kk, if_pos h]
    congr 1
    clear kk
    induction D with
    | nil => simp [keysT] at h
    | cons a D ih =>
      obtain ⟨s, m⟩ := a
      rw [keysT_cons] at hn h
      have hn' := List.nodup_cons.mp hn
      simp only [tbK, tbV, List.map_cons, List.zipWith_cons_cons, putT]
      by_cases q : s = k
      · subst q
        rw [if_pos ((key_nat _ _).mpr rfl), if_pos rfl, List.map_cons]
        congr 1
        clear ih hn h
        have hk := hn'.1
        clear hn'
        induction D with
        | nil => rfl
        | cons b D ih =>
          rw [keysT_cons, List.mem_cons, not_or] at hk
          rw [List.map_cons, List.map_cons, List.zipWith_cons_cons, if_neg (fun z => hk.1 ((key_nat _ _).mp z).symm), ih hk.2]
      · have hk : k ∈ keysT D := by
          rcases List.mem_cons.mp h with z | z
          · exact absurd z.symm q
          · exact z
        rw [if_neg (fun z => q ((key_nat _ _).mp z)), if_neg q, List.map_cons]
        congr 1
        exact ih hn'.2 hk
  · rw [if_neg (by simpa using h), kk, if_neg h]
    congr 1
    clear kk
    induction D with
    | nil => rfl
    | cons a D ih =>
      obtain ⟨s, m⟩ := a
      rw [keysT_cons] at hn h
      rw [List.mem_cons, not_or] at h
      simp only [tbV, putT] at ih ⊢
      rw [if_neg (fun z => h.1 z.symm), List.map_cons, List.map_cons, List.cons_append, ih (List.nodup_cons.mp hn).2 h.2]
theorem items_tb (D : Tb) : itemsP (tbK D) (tbV D) = D.map fun a => PV.tup [natP a.1, natP a.2] := by
  induction D with
  | nil => rfl
  | cons a D ih => simp only [itemsP, tbK, tbV, List.map_cons, List.zipWith_cons_cons] at ih ⊢; rw [ih]
theorem tb_len (D : Tb) : (tbK D).length = D.length := by simp [tbK]
/-! ### one place more -/
noncomputable def wBody (mul : O2) : DS := (dSeq (dSet 8 (dFn fMin (dConsX (dVar 6) (dConsX (dBin oAdd (dBin oIx (dVar 0) (dVar 4)) (dLit (.int 1))) dNil))))
    (dSeq (dDput (dBin oAdd (dDget2 (dVar 5) (dBin oAdd (dVar 6) (dLit (.int 1))) (dLit (.int 0))) (dBin mul (dVar 7) (dVar 8))) (dVar 5) (dBin oAdd (dVar 6) (dLit (.int 1))))
    (dDput (dBin oAdd (dDget2 (dVar 5) (dVar 6) (dLit (.int 0))) (dBin mul (dVar 7) (dBin oSub (dBin oAdd (dBin oIx (dVar 0) (dVar 4)) (dLit (.int 1))) (dVar 8)))) (dVar 5) (dVar 6))))
/-- the slots: caps, at, first, ways, place, more, spot, many, ahead, cap -/
def wEnv (R a f w p m : PV) (x6 x7 x8 : Option PV) : LEnv := [some R, some a, some f, some w, some p, some m, x6, x7, x8, none]
theorem mul_wide {i j b : Nat} (hi : i < 2 ^ b) (hb : 0 < b) (hb2 : b ≤ 900000) (hj : j ≤ 100000) (S : Store) : oMulG (natP i) (natP j) S = some (natP (i * j)) := by
  have l1 : i.log2 < b := log2_small hi hb
  have l2 := log_small j (by omega)
  simp only [natP]
  rw [oMulG_int (by simp only [Int.natAbs_natCast]; omega), Int.natCast_mul]
theorem min_nat (i j : Nat) (S : Store) : fMin [natP i, natP j] S = some (natP (min i j)) := by
  simp only [natP, fMin]
  congr 2
  omega
theorem w_turn {mul : O2} {R w p a f : PV} {c s m : Nat} {x6 x7 x8 : Option PV} {M : Tb} {B : Store} {cs : List Nat} {Rn pn : Nat} (hR : R = .ref .lst Rn) (hRc : B[Rn]? = some (.lst (cs.map natP))) (hp : p = natP pn) (hc : cs[pn]? = some c) (hM : (keysT M).Nodup) (hMl : M.length + 2 < 16777216)
    (hm1 : ∀ S, mul (natP m) (natP (min s (c + 1))) S = some (natP (m * min s (c + 1)))) (hm2 : ∀ S, mul (natP m) (natP (c + 1 - min s (c + 1))) S = some (natP (m * (c + 1 - min s (c + 1))))) :
    wBody mul (wEnv R a f w p (.ref .dic B.length) (some (natP s)) (some (natP m)) x8) (B ++ [.dic (tbK M) (tbV M)]) =
      .ok (.nx (wEnv R a f w p (.ref .dic B.length) (some (natP s)) (some (natP m)) (some (natP (min s (c + 1)))))) (B ++ [.dic (tbK (putIn c M (s, m))) (tbV (putIn c M (s, m)))]) := by
  subst hR hp
  have hix : ∀ E, oIx (.ref .lst Rn) (natP pn) (B ++ E) = some (natP c) := fun E => by
    have h1 : (cs.map natP)[pn]? = some (natP c) := by rw [List.getElem?_map, hc]; rfl
    have hlt := (List.getElem?_eq_some_iff.mp hc).1
    simp only [oIx, natP, seqOf_ref, get_app hRc, Option.bind_some, atP, L2.atI, L2.ixN]
    rw [if_pos (by omega), if_pos (by simp; omega)]
    simpa [natP] using h1
  have add1 : ∀ (k : Nat) S, oAdd (natP k) (.int 1) S = some (natP (k + 1)) := fun k S => by simp [natP]
  have addn : ∀ (k j : Nat) S, oAdd (natP k) (natP j) S = some (natP (k + j)) := fun k j S => by simp [natP]
  have subn : ∀ (k j : Nat) S, j ≤ k → oSub (natP k) (natP j) S = some (natP (k - j)) := fun k j S h => by
    simp only [natP, oSub_int]
    congr 2; omega
  have bn : ∀ k S, bnd (natP k) S = .ok (natP k) S := fun k S => rfl
  have get : ∀ (M : Tb), (dicOf (.ref .dic B.length) (B ++ [.dic (tbK M) (tbV M)])) = some (tbK M, tbV M) := fun M => by simp [dicOf]
  have l1 := put_len M (s + 1) (val M (s + 1) + m * min s (c + 1))
  unfold wBody wEnv
  simp only [dSeq_eq, dSet_eq, dFn_eq, dConsX_eq, dBin_eq, dVar_eq, dLit_eq, dNil_eq, List.getElem?_cons_succ, List.getElem?_cons_zero, Res.bind_ok, hix, ofO_some, add1, min_nat, bn, List.set_cons_succ, List.set_cons_zero, dDput_eq, dDget2_eq, get, Option.isSome_some, if_true, keyOf_nat, look_tb, hm1, addn, get_snoc]
  rw [put_tb hM, if_pos (by rw [tb_len]; omega)]
  simp only [Res.bind_ok, set_snoc, dVar_eq, List.getElem?_cons_succ, List.getElem?_cons_zero, get, Option.isSome_some, if_true, dLit_eq, keyOf_nat, look_tb, ofO_some, hix, add1, subn _ _ _ (Nat.min_le_right s (c + 1)), hm2, addn, bn, get_snoc]
  rw [put_tb (nodup_put hM _ _), if_pos (by rw [tb_len]; omega)]
  simp only [set_snoc]
  rfl
end My

set_option Elab.async false
set_option linter.all false
set_option maxRecDepth 100000
set_option maxHeartbeats 4000000
namespace My
open PySem Z
theorem fold_len (c : Nat) : ∀ (A M : Tb), (A.foldl (putIn c) M).length ≤ M.length + 2 * A.length
  | [], M => by simp
  | a :: A, M => by
    have h1 := fold_len c A (putIn c M a)
    have h2 := put_len (addT M (a.1 + 1) (a.2 * min a.1 (c + 1))) a.1 (val (addT M (a.1 + 1) (a.2 * min a.1 (c + 1))) a.1 + a.2 * (c + 1 - min a.1 (c + 1)))
    have h3 := put_len M (a.1 + 1) (val M (a.1 + 1) + a.2 * min a.1 (c + 1))
    simp only [List.foldl_cons, List.length_cons]
    have e : (putIn c M a).length ≤ M.length + 2 := Nat.le_trans h2 (by unfold addT; omega)
    omega
noncomputable def oBody : DS := (dSeq (dSet 5 dDnew) (dSeq (dLock 3 (dFor (iItm 3) (gTupZ (gAnd (gSet 6) (gAnd (gSet 7) gNon))) (wBody oMulG))) (dSet 3 (dVar 5))))
theorem set_app {S : Store} {n : Nat} {c : Cell} {E : Store} (h : n < S.length) : (S ++ E).set n c = S.set n c ++ E := by rw [List.set_append, if_pos h]
theorem o_turn {a f : PV} {x5 x6 x7 x8 : Option PV} {n c pn Rn b : Nat} {D : Tb} {S : Store} {cs : List Nat} (hR : S[Rn]? = some (.lst (cs.map natP))) (hn : S[n]? = some (.dic (tbK D) (tbV D))) (hc : cs[pn]? = some c)
    (hD : (keysT D).Nodup) (hDl : D.length ≤ 100000) (hm : ∀ a ∈ D, a.2 < 2 ^ b ∧ a.1 ≤ 10000) (hb : 0 < b) (hb2 : b ≤ 900000) (hcs : c ≤ 1000) :
    ∃ z6 z7 z8, oBody [some (.ref .lst Rn), some a, some f, some (.ref .dic n), some (natP pn), x5, x6, x7, x8, none] S =
      .ok (.nx (wEnv (.ref .lst Rn) a f (.ref .dic S.length) (natP pn) (.ref .dic S.length) z6 z7 z8)) (S ++ [.dic (tbK (stepT c D)) (tbV (stepT c D))]) := by
  have hnl := (List.getElem?_eq_some_iff.mp hn).1
  have hRl := (List.getElem?_eq_some_iff.mp hR).1
  have hRn : Rn ≠ n := fun e => by rw [e, hn] at hR; cases hR
  have hBl : (S.set n (.lck (tbK D) (tbV D))).length = S.length := by simp
  have hBR : (S.set n (.lck (tbK D) (tbV D)))[Rn]? = some (.lst (cs.map natP)) := by rw [List.getElem?_set_ne (Ne.symm hRn)]; exact hR
  have hBn : ∀ E, (S.set n (.lck (tbK D) (tbV D)) ++ E)[n]? = some (.lck (tbK D) (tbV D)) := fun E => by
    rw [List.getElem?_append_left (by simpa using hnl), List.getElem?_set_self hnl]
  obtain ⟨ρ', S', h1, h2, y6, y7, y8, h3⟩ := forM (di := iItm 3) (g := gTupZ (gAnd (gSet 6) (gAnd (gSet 7) gNon))) (b := wBody oMulG) (ρ := wEnv (.ref .lst Rn) a f (.ref .dic n) (natP pn) (.ref .dic S.length) x6 x7 x8)
    (S := S.set n (.lck (tbK D) (tbV D)) ++ [.dic [] []]) (S1 := S.set n (.lck (tbK D) (tbV D)) ++ [.dic [] []]) (f := itmS n) (xs := D) (F := fun a => PV.tup [natP a.1, natP a.2])
    (by simp [iItm, wEnv, hBn]) (by simp only [itmS, hBn, items_tb]) (fun A ρ S' => S' = S.set n (.lck (tbK D) (tbV D)) ++ [.dic (tbK (A.foldl (putIn c) [])) (tbV (A.foldl (putIn c) []))] ∧ ∃ x6 x7 x8, ρ = wEnv (.ref .lst Rn) a f (.ref .dic n) (natP pn) (.ref .dic S.length) x6 x7 x8)
    (fun A ρ S' h => by rw [h.1]; simp only [itmS, hBn, items_tb]) ⟨rfl, x6, x7, x8, rfl⟩ fun A t B ρ S' e ⟨e1, y6, y7, y8, e2⟩ => by
      subst e1 e2
      have ht := hm t (by rw [e]; simp)
      have hAl : A.length ≤ 100000 := by rw [e] at hDl; simp at hDl; omega
      have fl := fold_len c A []
      simp only [List.length_nil] at fl
      have tn := w_turn (mul := oMulG) (R := .ref .lst Rn) (w := .ref .dic n) (p := natP pn) (a := a) (f := f) (c := c) (s := t.1) (m := t.2) (x6 := y6) (x7 := y7) (x8 := y8) (M := A.foldl (putIn c) []) (B := S.set n (.lck (tbK D) (tbV D))) rfl hBR rfl hc
        (nodup_fold c A [] List.nodup_nil) (by omega) (fun S => mul_wide ht.1 hb hb2 (by omega) S) (fun S => mul_wide ht.1 hb hb2 (by omega) S)
      rw [hBl] at tn
      refine ⟨_, _, _, rfl, .inl tn, ?_, some (natP t.1), some (natP t.2), some (natP (min t.1 (c + 1))), rfl⟩
      rw [List.foldl_append]; rfl
  refine ⟨y6, y7, y8, ?_⟩
  subst h2 h3
  unfold oBody
  have hlk : dLock 3 (dFor (iItm 3) (gTupZ (gAnd (gSet 6) (gAnd (gSet 7) gNon))) (wBody oMulG)) (wEnv (.ref .lst Rn) a f (.ref .dic n) (natP pn) (.ref .dic S.length) x6 x7 x8) (S ++ [.dic [] []]) =
      .ok (.nx (wEnv (.ref .lst Rn) a f (.ref .dic n) (natP pn) (.ref .dic S.length) y6 y7 y8)) (S ++ [.dic (tbK (stepT c D)) (tbV (stepT c D))]) := by
    have e3 : (wEnv (.ref .lst Rn) a f (.ref .dic n) (natP pn) (.ref .dic S.length) x6 x7 x8)[3]? = some (some (.ref .dic n)) := rfl
    unfold dLock
    rw [e3]
    simp only [get_app hn]
    rw [set_app hnl, h1]
    simp only [unlk, hBn]
    rw [set_app (by simpa using hnl), List.set_set]
    have : S.set n (.dic (tbK D) (tbV D)) = S := by
      apply List.ext_getElem?
      intro i
      by_cases q : n = i
      · subst q; rw [List.getElem?_set_self hnl, hn]
      · rw [List.getElem?_set_ne q]
    rw [this]; rfl
  have e0 : dSet 5 dDnew [some (.ref .lst Rn), some a, some f, some (.ref .dic n), some (natP pn), x5, x6, x7, x8, none] S = .ok (.nx (wEnv (.ref .lst Rn) a f (.ref .dic n) (natP pn) (.ref .dic S.length) x6 x7 x8)) (S ++ [.dic [] []]) := rfl
  simp only [dSeq_eq, e0, Res.bind_ok, hlk]
  rfl
theorem cnt_le (cs : List Nat) (i p : Nat) : cnt1 cs i p ≤ prodN cs := by
  unfold cnt1
  split
  · omega
  · unfold cntAt
    rw [← codes_len]
    exact List.countP_le_length
theorem val_mem {D : Tb} (h : (keysT D).Nodup) {a : Nat × Nat} (ha : a ∈ D) : val D a.1 = a.2 := by
  induction D with
  | nil => cases ha
  | cons b D ih =>
    rw [keysT_cons] at h
    have h' := List.nodup_cons.mp h
    obtain ⟨s, m⟩ := b
    simp only [val]
    rcases List.mem_cons.mp ha with e | e
    · subst e; simp
    · rw [if_neg (fun z => h'.1 (by rw [z]; exact List.mem_map.mpr ⟨a, e, rfl⟩)), ih h'.2 e]
theorem codeOk_drop {cs : List Nat} (h : CodeOk cs) (n : Nat) : CodeOk (cs.drop n) := by
  induction n generalizing cs with
  | zero => exact h
  | succ n ih =>
    cases cs with
    | nil => exact h
    | cons c cs => exact ih h.2
theorem ways_bound {cs : List Nat} {i : Nat} (hok : CodeOk cs) (hi : i < cs.length) (hc : ∀ c ∈ cs, c ≤ 1000) (hl : cs.length ≤ 1000) : (keysT (waysT cs i)).Nodup ∧ (waysT cs i).length ≤ 1001 ∧ ∀ a ∈ waysT cs i, a.2 < 2 ^ 10001 ∧ a.1 ≤ 1000 := by
  have t := ways_tells hi
  have tl := top_le hok hi
  have hk : ∀ s ∈ keysT (waysT cs i), s < 1001 := fun s hs => by have := t.key s hs; omega
  refine ⟨t.nd, ?_, fun a ha => ⟨?_, ?_⟩⟩
  · have := nodup_len (D := List.range 1001) t.nd fun s hs => List.mem_range.mpr (hk s hs)
    simpa [keysT] using this
  · rw [← val_mem t.nd ha, t.val]
    refine Nat.lt_of_le_of_lt (cnt_le _ _ _) (Nat.lt_of_lt_of_le (prod_lt cs hc) (Nat.pow_le_pow_right (by omega) (by omega)))
  · have := hk a.1 (List.mem_map.mpr ⟨a, ha, rfl⟩)
    omega
theorem drop_at {cs : List Nat} {p : Nat} (h : p < cs.length) : ∃ c, cs[p]? = some c ∧ cs.drop p = c :: cs.drop (p + 1) := ⟨cs[p], List.getElem?_eq_getElem h, List.drop_eq_getElem_cons h⟩
/-- the first table -/
theorem w_first {Rn at_ f : Nat} {S : Store} {cs : List Nat} {x5 x6 x7 x8 x4 : Option PV} (hR : S[Rn]? = some (.lst (cs.map natP))) (hat : at_ < cs.length) (hc : ∀ c ∈ cs, c ≤ 1000) (hl : cs.length ≤ 1000) :
    ∃ E, dDc (iRan1 (dCons (dBin oAdd (dBin oIx (dVar 0) (dVar 1)) (dLit (.int 1))) dNil)) (gSet 7) dYes (dBin oAdd (dVar 7) (dLit (.int 1))) (dCall 1 F_product (dCons (dLc (iAny (dSl (dVar 0) (dPart (dBin oAdd (dVar 1) (dLit (.int 1)))) dNo)) (gSet 9) dYes (dBin oAdd (dVar 9) (dLit (.int 1))) [9]) dNil)) [7]
      [some (.ref .lst Rn), some (natP at_), some (natP f), none, none, none, none, none, none, none] S = .ok (.tmd (tbK (waysT (cs.drop at_) 0)) (tbV (waysT (cs.drop at_) 0))) (S ++ E) := by
  obtain ⟨c, h1, h2⟩ := drop_at hat
  have hcc := hc c (List.mem_of_getElem? h1)
  have hix : ∀ E, oIx (.ref .lst Rn) (natP at_) (S ++ E) = some (natP c) := fun E => by
    have h3 : (cs.map natP)[at_]? = some (natP c) := by rw [List.getElem?_map, h1]; rfl
    simp only [oIx, natP, seqOf_ref, get_app hR, Option.bind_some, atP, L2.atI, L2.ixN]
    rw [if_pos (by omega), if_pos (by simp; omega)]
    simpa [natP] using h3
  obtain ⟨ka, va, S', e1, E, e2, e3⟩ := dcM_inv (di := iRan1 (dCons (dBin oAdd (dBin oIx (dVar 0) (dVar 1)) (dLit (.int 1))) dNil)) (g := gSet 7) (ek := dBin oAdd (dVar 7) (dLit (.int 1)))
    (ev := dCall 1 F_product (dCons (dLc (iAny (dSl (dVar 0) (dPart (dBin oAdd (dVar 1) (dLit (.int 1)))) dNo)) (gSet 9) dYes (dBin oAdd (dVar 9) (dLit (.int 1))) [9]) dNil)) (vs := [7])
    (ρ := [some (.ref .lst Rn), some (natP at_), some (natP f), none, none, none, none, none, none, none]) (S := S) (S1 := S) (f := fun _ => some (rngL 0 (c + 1))) (xs := List.range (c + 1)) (F := natP)
    (by
      have := hix []
      rw [List.append_nil] at this
      simp only [natP] at this
      have hr := ran1_ok (r := dCons (dBin oAdd (dBin oIx (dVar 0) (dVar 1)) (dLit (.int 1))) dNil) (ρ := [some (.ref .lst Rn), some (natP at_), some (natP f), none, none, none, none, none, none, none]) (S := S) (S1 := S) (j := (c : Int) + 1) (by simp only [dCons_eq, dBin_eq, dVar_eq, List.getElem?_cons_succ, List.getElem?_cons_zero, Res.bind_ok, this, ofO_some, dLit_eq, natP, oAdd_int, bnd_int, dNil_eq]) (by omega) (by omega)
      rw [hr, show ((c : Int) + 1).toNat = c + 1 by omega]) (by simp [rngL, natP])
    (fun A ka va S' => ∃ E, S' = S ++ E ∧ (ka, va) = (tbK (A.map fun k => (k + 1, prodN (cs.drop (at_ + 1)))), tbV (A.map fun k => (k + 1, prodN (cs.drop (at_ + 1)))))) (fun A ka va S' _ => by simp [rngL, natP]) ⟨[], by simp, rfl⟩ fun A a B ka va S' e ⟨E, q1, q2⟩ => by
      obtain ⟨rfl, rfl⟩ := Prod.mk.inj q2
      subst q1
      have ha : a ≤ 1000 := by
        have : a ∈ List.range (c + 1) := by rw [e]; simp
        have := List.mem_range.mp this; omega
      have hA : A.length ≤ 1001 := by
        have := congrArg List.length e
        simp at this; omega
      have hcut : cutP (cs.map natP) (some ((at_ : Int) + 1)) none = (cs.drop (at_ + 1)).map natP := by
        unfold cutP
        have s1 : HT.sIx (cs.map natP).length 0 (some ((at_ : Int) + 1)) = at_ + 1 := by
          unfold HT.sIx
          simp
          split <;> omega
        have s2 : HT.sIx (cs.map natP).length (cs.map natP).length none = (cs.map natP).length := rfl
        rw [s1, s2, List.map_drop, List.take_of_length_le (by simp)]
      have hp := ev_prodc (d := dSl (dVar 0) (dPart (dBin oAdd (dVar 1) (dLit (.int 1)))) dNo) (i := 9) (ρ := [some (.ref .lst Rn), some (natP at_), some (natP f), none, none, none, none, some (natP a), none, none]) (S := S ++ E) (x := .tmp ((cs.drop (at_ + 1)).map natP)) (cs := cs.drop (at_ + 1))
        (by
          simp only [dSl_eq, dVar_eq, List.getElem?_cons_succ, List.getElem?_cons_zero, Res.bind_ok, dPart_eq, dBin_eq, dLit_eq, natP, oAdd_int, ofO_some, dNo_eq, slP, lstOf_ref, get_app hR, Option.map_some]
          rw [hcut])
        rfl (fun z => by simp) (by simp) (fun c' h' => hc c' (List.mem_of_mem_drop h')) (by simp; omega)
      refine ⟨_, natP (a + 1), .inl ((a + 1 : Nat) : Int), S ++ E, natP (prodN (cs.drop (at_ + 1))), _, natP (prodN (cs.drop (at_ + 1))), _, rfl, ?_, rfl, hp, rfl, by simp [tbK]; omega, E ++ _, by rw [List.append_assoc], ?_⟩
      · simp [natP]
      · have hn : (keysT (A.map fun k => (k + 1, prodN (cs.drop (at_ + 1))))).Nodup := by
          have hr : (A ++ a :: B).Nodup := by rw [← e]; exact List.nodup_range
          have hA' := (List.nodup_append.mp hr).1
          unfold keysT
          rw [List.map_map]
          exact List.pairwise_map.mpr (hA'.imp fun {x y} h e => h (by simpa using e))
        have hnk : a + 1 ∉ keysT (A.map fun k => (k + 1, prodN (cs.drop (at_ + 1)))) := fun hm => by
          simp only [keysT, List.map_map, List.mem_map, Function.comp] at hm
          obtain ⟨x, hx, ex⟩ := hm
          have : x = a := by omega
          subst this
          have hr : (A ++ x :: B).Nodup := by rw [← e]; exact List.nodup_range
          exact (List.nodup_append.mp hr).2.2 x hx x List.mem_cons_self rfl
        rw [put_tb hn]
        have hput : ∀ (D : Tb) (k v : Nat), k ∉ keysT D → putT D k v = D ++ [(k, v)] := by
          intro D k v
          induction D with
          | nil => intro _; rfl
          | cons b D ih =>
            obtain ⟨s, m⟩ := b
            intro h
            rw [keysT_cons, List.mem_cons, not_or] at h
            simp only [putT]
            rw [if_neg (fun z => h.1 z.symm), ih h.2]; rfl
        rw [hput _ _ _ hnk, List.map_append]
        rfl
  refine ⟨E, ?_⟩
  obtain ⟨rfl, rfl⟩ := Prod.mk.inj e3
  rw [e1, e2, h2]
  rfl
theorem ev_ways {Rn at_ f : Nat} {S : Store} {cs : List Nat} (hR : S[Rn]? = some (.lst (cs.map natP))) (hf : f ≤ at_) (hat : at_ < cs.length) (hok : CodeOk cs) (hc : ∀ c ∈ cs, c ≤ 1000) (hl : cs.length ≤ 1000) :
    F_ways_at [.ref .lst Rn, natP at_, natP f] S = .ok (.tmd (tbK (waysT (cs.drop f) (at_ - f))) (tbV (waysT (cs.drop f) (at_ - f)))) S := by
  obtain ⟨E0, e0⟩ := w_first (f := f) (x4 := none) (x5 := none) (x6 := none) (x7 := none) (x8 := none) hR hat hc hl
  have hs0 : dSet 3 (dDc (iRan1 (dCons (dBin oAdd (dBin oIx (dVar 0) (dVar 1)) (dLit (.int 1))) dNil)) (gSet 7) dYes (dBin oAdd (dVar 7) (dLit (.int 1))) (dCall 1 F_product (dCons (dLc (iAny (dSl (dVar 0) (dPart (dBin oAdd (dVar 1) (dLit (.int 1)))) dNo)) (gSet 9) dYes (dBin oAdd (dVar 9) (dLit (.int 1))) [9]) dNil)) [7])
      [some (.ref .lst Rn), some (natP at_), some (natP f), none, none, none, none, none, none, none] S =
      .ok (.nx [some (.ref .lst Rn), some (natP at_), some (natP f), some (.ref .dic (S ++ E0).length), none, none, none, none, none, none]) (S ++ (E0 ++ [.dic (tbK (waysT (cs.drop at_) 0)) (tbV (waysT (cs.drop at_) 0))])) := by
    simp only [dSet_eq, e0, Res.bind_ok, bnd_tmd, List.append_assoc]
    rfl
  obtain ⟨ρ', S', h1, E, h2, m, x4, x5, x6, x7, x8, h3, h4, h5⟩ := forM (di := iRan3 (dCons (dBin oSub (dVar 1) (dLit (.int 1))) (dCons (dBin oSub (dVar 2) (dLit (.int 1))) (dCons (dUn oNeg (dLit (.int 1))) dNil)))) (g := gSet 4) (b := oBody)
    (ρ := [some (.ref .lst Rn), some (natP at_), some (natP f), some (.ref .dic (S ++ E0).length), none, none, none, none, none, none]) (S := S ++ (E0 ++ [.dic (tbK (waysT (cs.drop at_) 0)) (tbV (waysT (cs.drop at_) 0))])) (S1 := S ++ (E0 ++ [.dic (tbK (waysT (cs.drop at_) 0)) (tbV (waysT (cs.drop at_) 0))]))
    (f := fun _ => some (rngDn ((at_ : Int) - 1) (at_ - f))) (xs := List.range (at_ - f)) (F := fun (i : Nat) => PV.int ((at_ : Int) - 1 - (i : Int)))
    (by
      have := ran3_ok (r := dCons (dBin oSub (dVar 1) (dLit (.int 1))) (dCons (dBin oSub (dVar 2) (dLit (.int 1))) (dCons (dUn oNeg (dLit (.int 1))) dNil))) (ρ := [some (.ref .lst Rn), some (natP at_), some (natP f), some (.ref .dic (S ++ E0).length), none, none, none, none, none, none]) (S := S ++ (E0 ++ [.dic (tbK (waysT (cs.drop at_) 0)) (tbV (waysT (cs.drop at_) 0))]))
        (S1 := S ++ (E0 ++ [.dic (tbK (waysT (cs.drop at_) 0)) (tbV (waysT (cs.drop at_) 0))])) (i := (at_ : Int) - 1) (j := (f : Int) - 1) (by simp only [dCons_eq, dBin_eq, dUn_eq, dVar_eq, List.getElem?_cons_succ, List.getElem?_cons_zero, Res.bind_ok, ofO_some, dLit_eq, natP, oSub_int, oNeg, bnd_int, dNil_eq]) (by omega) (by omega) (by omega) (by omega)
      rw [this, show ((at_ : Int) - 1 - ((f : Int) - 1)).toNat = at_ - f by omega]) rfl
    (fun A ρ S' => ∃ E, S' = S ++ E ∧ ∃ m x4 x5 x6 x7 x8, ρ = [some (.ref .lst Rn), some (natP at_), some (natP f), some (.ref .dic m), x4, x5, x6, x7, x8, none] ∧ S.length ≤ m ∧ S'[m]? = some (.dic (tbK (waysT (cs.drop (at_ - A.length)) A.length)) (tbV (waysT (cs.drop (at_ - A.length)) A.length))))
    (fun A ρ S' _ => rfl)
    ⟨_, rfl, (S ++ E0).length, none, none, none, none, none, rfl, by simp, by rw [← List.append_assoc]; simp⟩ fun A i B ρ S' e ⟨E, q1, m, x4, x5, x6, x7, x8, q2, q3, q4⟩ => by
      subst q1 q2
      have hi : i = A.length := by
        have h := congrArg (fun l => l[A.length]?) e
        simp only [List.getElem?_append_right (Nat.le_refl _), Nat.sub_self, List.getElem?_cons_zero] at h
        have := (List.getElem?_eq_some_iff.mp h).2
        simpa using this.symm
      have hlt : A.length < at_ - f := by
        have := congrArg List.length e
        simp at this; omega
      subst hi
      obtain ⟨c, c1, c2⟩ := drop_at (cs := cs) (p := at_ - (A.length + 1)) (by omega)
      have hpl : (at_ : Int) - 1 - (A.length : Int) = ((at_ - (A.length + 1) : Nat) : Int) := by omega
      have hsub : at_ - (A.length + 1) + 1 = at_ - A.length := by omega
      rw [hsub] at c2
      obtain ⟨w1, w2, w3⟩ := ways_bound (cs := cs.drop (at_ - A.length)) (i := A.length) (codeOk_drop hok _) (by simp; omega) (fun c h => hc c (List.mem_of_mem_drop h)) (by simp; omega)
      obtain ⟨z6, z7, z8, tn⟩ := o_turn (a := natP at_) (f := natP f) (x5 := x5) (x6 := x6) (x7 := x7) (x8 := x8) (n := m) (c := c) (pn := at_ - (A.length + 1)) (Rn := Rn) (b := 10001) (D := waysT (cs.drop (at_ - A.length)) A.length) (S := S ++ E) (cs := cs)
        (get_app hR) q4 c1 w1 (by omega) (fun a ha => ⟨(w3 a ha).1, by have := (w3 a ha).2; omega⟩) (by omega) (by omega) (hc c (List.mem_of_getElem? c1))
      refine ⟨[some (.ref .lst Rn), some (natP at_), some (natP f), some (.ref .dic m), some (natP (at_ - (A.length + 1))), x5, x6, x7, x8, none], _, _, ?_, .inl tn, E ++ _, by rw [List.append_assoc], (S ++ E).length, _, _, z6, z7, z8, rfl, by simp, ?_⟩
      · simp only [gSet_eq, hpl]; rfl
      · have el : (A ++ [A.length]).length = A.length + 1 := by simp
        rw [el, c2]
        simp only [waysT]
        simp
  subst h2 h3
  unfold F_ways_at mkFn d_ways_at
  simp only [List.map_cons, List.map_nil, List.length_cons, List.length_nil, List.replicate, List.append_nil, List.cons_append, List.nil_append, Nat.sub_self, Nat.reduceSub, Nat.reduceAdd]
  have hb : (dSeq (dSet 5 dDnew)
    (dSeq (dLock 3 (dFor (iItm 3) (gTupZ (gAnd (gSet 6) (gAnd (gSet 7) gNon))) (dSeq (dSet 8 (dFn fMin (dConsX (dVar 6) (dConsX (dBin oAdd (dBin oIx (dVar 0) (dVar 4)) (dLit (.int 1))) dNil))))
    (dSeq (dDput (dBin oAdd (dDget2 (dVar 5) (dBin oAdd (dVar 6) (dLit (.int 1))) (dLit (.int 0))) (dBin oMulG (dVar 7) (dVar 8))) (dVar 5) (dBin oAdd (dVar 6) (dLit (.int 1))))
    (dDput (dBin oAdd (dDget2 (dVar 5) (dVar 6) (dLit (.int 0))) (dBin oMulG (dVar 7) (dBin oSub (dBin oAdd (dBin oIx (dVar 0) (dVar 4)) (dLit (.int 1))) (dVar 8)))) (dVar 5) (dVar 6))))))
    (dSet 3 (dVar 5)))) = oBody := rfl
  rw [hb]
  rw [dSeq_eq, hs0]
  simp only [Res.bind_ok]
  rw [dSeq_eq, h1]
  simp only [Res.bind_ok, dRet_eq, dVar_eq, List.getElem?_cons_succ, List.getElem?_cons_zero]
  rw [List.length_range] at h5
  rw [gc_newD h4 h5 (by simp [tbV, natP]), show at_ - (at_ - f) = f by omega]
end My

set_option Elab.async false
set_option linter.all false
set_option maxRecDepth 100000
set_option maxHeartbeats 4000000
namespace My
open PySem Z
theorem idx_at {N : List Str} (hN : N.Nodup) {i : Nat} {n : Str} (h : N[i]? = some n) : N.idxOf n = i := by
  have hi := (List.getElem?_eq_some_iff.mp h).1
  have e := (List.getElem?_eq_some_iff.mp h).2
  rw [← e]
  exact hN.idxOf_getElem i hi
theorem names_get {L : List (Str × Int)} {i : Nat} {n : Str} (h : (L.map (·.1))[i]? = some n) : i < L.length := by
  have := (List.getElem?_eq_some_iff.mp h).1
  simpa using this
theorem ev_idx {L : List (Str × Int)} (hL : Line L) {i : Nat} {n : Str} (h : (L.map (·.1))[i]? = some n) (S : Store) : mIndex (.tup ((L.map (·.1)).map PV.str)) [.str n] S = some (natP i, S) := by
  rw [index_tup S (List.mem_of_getElem? h), idx_at hL.2.2.2 h]; rfl
/-- d.get(k, 0) for k in range(1, n + 1) -/
theorem get_row {D : Tb} {n m i : Nat} {ρ : LEnv} {S : Store} {r : DA} (hm : S[m]? = some (.dic (tbK D) (tbV D))) (hr : r ρ S = .ok [.int 1, .int ((n : Int) + 1)] S) (hn : n ≤ 1000) (h2 : ρ[2]? = some (some (.ref .dic m))) (hi : i < ρ.length) (hi2 : i ≠ 2) :
    dLc (iRan2 r) (gSet i) dYes (dDget2 (dVar 2) (dVar i) (dLit (.int 0))) [i] ρ S = .ok (.tmp ((List.range n).map fun p => natP (val D (p + 1)))) S := by
  have h0 := ran2_ok hr (by omega) (by omega) (by omega) (by omega)
  rw [show ((n : Int) + 1 - 1).toNat = n by omega] at h0
  refine lcM_all (f := fun _ => some (rngL 1 n)) (xs := List.range n) (F := fun p => natP (p + 1)) h0 (by simp [rngL, natP]; intro a _; omega) _ (fun p hp => ⟨_, rfl, ?_, rfl⟩) (by simp; omega)
  have g1 : (ρ.set i (some (natP (p + 1))))[i]? = some (some (natP (p + 1))) := by rw [List.getElem?_set]; simp [hi]
  have g2 : (ρ.set i (some (natP (p + 1))))[2]? = some (some (.ref .dic m)) := by rw [List.getElem?_set_ne hi2]; exact h2
  have gd : dicOf (.ref .dic m) S = some (tbK D, tbV D) := by simp [dicOf, hm]
  simp only [wipeP_cons, wipeP_nil, List.set_set, dDget2_eq, dVar_eq, g1, g2, Res.bind_ok, gd, Option.isSome_some, if_true, dLit_eq, keyOf_nat, look_tb, ofO_some]
theorem bnd_line (L : List (Str × Int)) (S : Store) : bnd (lineP L) S = .ok (lineP L) S := rfl
theorem bnd_nat (k : Nat) (S : Store) : bnd (natP k) S = .ok (natP k) S := rfl
theorem ap_ways {L : List (Str × Int)} (hL : Line L) {i : Nat} {n : Str} (h : (L.map (·.1))[i]? = some n) (S : Store) :
    dSet 2 (dCall 3 F_ways_at (dCons (dCall 1 F_caps_of (dCons (dVar 0) dNil)) (dCons (dMeth2 mIndex (dCall 1 F_names_of (dCons (dVar 0) dNil)) (dCons (dVar 1) dNil)) (dCons (dLit (.int 0)) dNil)))) [some (lineP L), some (.str n), none, none] S =
      .ok (.nx [some (lineP L), some (.str n), some (.ref .dic (S.length + 1)), none]) (S ++ [.lst ((capsL L).map natP), .dic (tbK (waysT (capsL L) i)) (tbV (waysT (capsL L) i))]) := by
  have hi := names_get h
  have hl := hL.len
  have e2 := ev_caps hl hL.nn S
  have e3 := ev_names_of hl (S ++ [.lst ((capsL L).map natP)])
  have e4 := ev_idx hL h (S ++ [.lst ((capsL L).map natP)])
  have e5 := ev_ways (Rn := S.length) (at_ := i) (f := 0) (S := S ++ [.lst ((capsL L).map natP)]) (cs := capsL L) (by simp) (by omega) (by rw [capsL_len]; exact hi) (capsL_ok L) (caps_le hl) (by rw [capsL_len]; exact hl)
  have z0 : PV.int 0 = natP 0 := rfl
  simp only [List.drop_zero, Nat.sub_zero] at e5
  generalize F_ways_at = fw at e5 ⊢
  generalize F_caps_of = fc at e2 ⊢
  generalize F_names_of = fn at e3 ⊢
  generalize hl0 : lineP L = l0 at e2 e3 ⊢
  have b1 : ∀ S, bnd l0 S = .ok l0 S := fun S => by rw [← hl0]; rfl
  simp only [dSet_eq, dCall_eq, dCons_eq, dVar_eq, List.getElem?_cons_succ, List.getElem?_cons_zero, Res.bind_ok, b1, dNil_eq, List.length_cons, List.length_nil, Nat.zero_add, if_true, e2, Res.calm_ok, bnd_tmp, dMeth2_eq, e3, isT_tup, Option.some.injEq, or_true, reduceCtorEq, bnd_str, e4, ofP_some, bnd_nat, dLit_eq, bnd_int]
  rw [z0]
  simp only [Nat.reduceAdd, if_true, e5, Res.calm_ok, Res.bind_ok, bnd_tmd]
  simp
theorem ap_need {L : List (Str × Int)} (hL : Line L) {n : Str} (h : n ∈ L.map (·.1)) (S : Store) (x y : Option PV) : dDrop (dCall 2 F_need_name (dCons (dVar 0) (dCons (dVar 1) dNil))) [some (lineP L), some (.str n), x, y] S = .ok (.nx [some (lineP L), some (.str n), x, y]) S := by
  have e1 := ev_need_name hL h S
  generalize F_need_name = fn at e1 ⊢
  simp only [dDrop_eq, dCall_eq, dCons_eq, dVar_eq, List.getElem?_cons_succ, List.getElem?_cons_zero, Res.bind_ok, bnd_line, bnd_str, dNil_eq, List.length_cons, List.length_nil, Nat.zero_add, Nat.reduceAdd, if_true, e1, Res.calm_ok]
theorem ap_row {L : List (Str × Int)} (hL : Line L) {i : Nat} {n : Str} (hi : i < L.length) (S : Store) :
    dLc (iRan2 (dCons (dLit (.int 1)) (dCons (dBin oAdd (dFn fLen (dConsX (dVar 0) dNil)) (dLit (.int 1))) dNil))) (gSet 3) dYes (dDget2 (dVar 2) (dVar 3) (dLit (.int 0))) [3] [some (lineP L), some (.str n), some (.ref .dic (S.length + 1)), none] (S ++ [.lst ((capsL L).map natP), .dic (tbK (waysT (capsL L) i)) (tbV (waysT (capsL L) i))]) =
      .ok (.tmp ((List.range L.length).map fun p => natP (cntAt (capsL L) i p))) (S ++ [.lst ((capsL L).map natP), .dic (tbK (waysT (capsL L) i)) (tbV (waysT (capsL L) i))]) := by
  have hr := get_row (D := waysT (capsL L) i) (n := L.length) (m := S.length + 1) (i := 3) (ρ := [some (lineP L), some (.str n), some (.ref .dic (S.length + 1)), none]) (S := S ++ [.lst ((capsL L).map natP), .dic (tbK (waysT (capsL L) i)) (tbV (waysT (capsL L) i))])
    (r := dCons (dLit (.int 1)) (dCons (dBin oAdd (dFn fLen (dConsX (dVar 0) dNil)) (dLit (.int 1))) dNil)) (by simp) (by simp [lineP]) hL.len rfl (by simp) (by decide)
  have hv : (fun p => natP (val (waysT (capsL L) i) (p + 1))) = fun p => natP (cntAt (capsL L) i p) := by
    funext p
    rw [(ways_tells (by rw [capsL_len]; exact hi)).val]
    simp [cnt1]
  rw [hv] at hr
  exact hr
theorem ev_at_places {L : List (Str × Int)} (hL : Line L) {i : Nat} {n : Str} (h : (L.map (·.1))[i]? = some n) (S : Store) : F_at_places [lineP L, .str n] S = .ok (.tmp ((List.range L.length).map fun p => natP (cntAt (capsL L) i p))) S := by
  have hd := ap_need hL (List.mem_of_getElem? h) S none none
  have hs := ap_ways hL h S
  have hr := ap_row hL (n := n) (names_get h) S
  exact fn_rt (seq_nx hd (seq_nx hs (ret_ok hr))) (gc_app (by simp [natP]))
end My

set_option Elab.async false
set_option linter.all false
set_option maxRecDepth 100000
set_option maxHeartbeats 4000000
namespace My
open PySem Z
theorem ins_ok {n k : Nat} {S : Store} {xs : List PV} {y : PV} (h : S[n]? = some (.lst xs)) (hl : xs.length ≤ 100000) (hk : k ≤ 100000) : mInsert (.ref .lst n) [natP k, y] S = some (.non, S.set n (.lst (insAt k y xs))) := by
  have h63 : (2 : Int) ^ 63 = 9223372036854775808 := by decide
  unfold mInsert
  rw [onCell_ref h]
  simp only [natP]
  rw [h63, if_pos ⟨by omega, by omega, by omega⟩]
  simp [insAt]
theorem ix_nat {x : PV} {xs : List PV} {S : Store} {i : Nat} {y : PV} (hs : seqOf x S = some xs) (hns : ∀ z, x ≠ .str z) (h : xs[i]? = some y) : oIx x (natP i) S = some y := by
  have hi := (List.getElem?_eq_some_iff.mp h).1
  have key : (seqOf x S).bind (fun xs => atP xs ((i : Nat) : Int)) = some y := by
    rw [hs]
    simp only [Option.bind_some, atP, L2.atI, L2.ixN]
    rw [if_pos (by omega), if_pos (by omega)]
    simpa using h
  cases x with
  | str z => exact absurd rfl (hns z)
  | _ => exact key
theorem insAt_map {α β : Type} (f : α → β) (k : Nat) (x : α) (l : List α) : insAt k (f x) (l.map f) = (insAt k x l).map f := by simp [insAt, List.map_take, List.map_drop]
theorem len_sub {x : PV} {n : Int} {i : Nat} {ρ : LEnv} {S : Store} (hv : ρ[i]? = some (some x)) (h : fLen [x] S = some (.int n)) : dBin oSub (dFn fLen (dConsX (dVar i) dNil)) (dLit (.int 1)) ρ S = .ok (.int (n - 1)) S :=
  bin_ok (fn1_ok (var_ok hv) h) lit_ok rfl
theorem neg1 {ρ : LEnv} {S : Store} : dUn oNeg (dLit (.int 1)) ρ S = .ok (.int (-1)) S := rfl
theorem range_part {n : Nat} {A B : List Nat} {a : Nat} (e : List.range n = A ++ a :: B) : a = A.length ∧ A.length < n := by
  have hl := congrArg List.length e
  simp at hl
  have h := congrArg (fun l => l[A.length]?) e
  simp only [List.getElem?_append_right (Nat.le_refl _), Nat.sub_self, List.getElem?_cons_zero] at h
  have := (List.getElem?_eq_some_iff.mp h).2
  exact ⟨by simpa using this.symm, by omega⟩
theorem ord_step {α : Type} [DecidableEq α] {N : List α} {ks : List Nat} {p : Nat} (hl : ks.length = N.length) (hp : p < N.length) : ∃ n k, N[p]? = some n ∧ ks[p]? = some k ∧ ordC (N.drop p) (ks.drop p) = insAt k n (ordC (N.drop (p + 1)) (ks.drop (p + 1))) := by
  have hp2 : p < ks.length := by omega
  exact ⟨N[p], ks[p], List.getElem?_eq_getElem hp, List.getElem?_eq_getElem hp2, by rw [List.drop_eq_getElem_cons hp, List.drop_eq_getElem_cons hp2]; rfl⟩
theorem ev_order_by {P : Nat} {N : List Str} {ks : List Nat} {S : Store} (hP : S[P]? = some (.lst (ks.map natP))) (hl : ks.length = N.length) (hn : N.length ≤ 1000) (hk : ∀ k ∈ ks, k ≤ 1000) :
    F_order_by [.tup (N.map PV.str), .ref .lst P] S = .ok (.tup ((ordC N ks).map PV.str)) S := by
  have hr := ran3_ok (r := dCons (dBin oSub (dFn fLen (dConsX (dVar 0) dNil)) (dLit (.int 1))) (dCons (dUn oNeg (dLit (.int 1))) (dCons (dUn oNeg (dLit (.int 1))) dNil))) (ρ := [some (.tup (N.map PV.str)), some (.ref .lst P), some (.ref .lst S.length), none]) (S := S ++ [.lst []]) (S1 := S ++ [.lst []])
    (i := (N.length : Int) - 1) (j := -1) (cons_ok (len_sub (n := N.length) rfl (by simp)) rfl (cons_ok neg1 rfl (cons_ok neg1 rfl nil_ok))) (by omega) (by omega) (by omega) (by omega)
  rw [show ((N.length : Int) - 1 - -1).toNat = N.length by omega] at hr
  obtain ⟨ρ', S', h1, h2, x, h3⟩ := forM (b := dDrop (dMeth .list mInsert (dVar 2) (dCons (dBin oIx (dVar 1) (dVar 3)) (dCons (dBin oIx (dVar 0) (dVar 3)) dNil)))) (g := gSet 3) (xs := List.range N.length) (F := fun (i : Nat) => PV.int ((N.length : Int) - 1 - (i : Int))) hr rfl
    (fun A ρ S' => S' = S ++ [.lst ((ordC (N.drop (N.length - A.length)) (ks.drop (N.length - A.length))).map PV.str)] ∧ ∃ x, ρ = [some (.tup (N.map PV.str)), some (.ref .lst P), some (.ref .lst S.length), x]) (fun A ρ S' _ => rfl)
    ⟨by simp [List.drop_eq_nil_of_le, ordC], none, rfl⟩ fun A a B ρ S' e ⟨e1, x, e2⟩ => by
      subst e1 e2
      obtain ⟨rfl, hlt⟩ := range_part e
      obtain ⟨n, k, q1, q2, q3⟩ := ord_step (N := N) (ks := ks) (p := N.length - (A.length + 1)) hl (by omega)
      have hsub : N.length - (A.length + 1) + 1 = N.length - A.length := by omega
      rw [hsub] at q3
      have hpl : (N.length : Int) - 1 - (A.length : Int) = ((N.length - (A.length + 1) : Nat) : Int) := by omega
      have hk' := hk k (List.mem_of_getElem? q2)
      have hol : (ordC (N.drop (N.length - A.length)) (ks.drop (N.length - A.length))).length ≤ 1000 := by
        have := (ordC_perm (N := N.drop (N.length - A.length)) (ks := ks.drop (N.length - A.length)) (by simp [hl])).length_eq
        rw [this]; simp; omega
      have hin := ins_ok (n := S.length) (k := k) (xs := (ordC (N.drop (N.length - A.length)) (ks.drop (N.length - A.length))).map PV.str) (S := S ++ [.lst ((ordC (N.drop (N.length - A.length)) (ks.drop (N.length - A.length))).map PV.str)]) (y := .str n) (by simp) (by simp; omega) (by omega)
      rw [insAt_map, ← q3, set_snoc] at hin
      refine ⟨[some (.tup (N.map PV.str)), some (.ref .lst P), some (.ref .lst S.length), some (natP (N.length - (A.length + 1)))], _, _, by rw [hpl]; rfl, .inl (drop_ok (meth_ok (var_ok rfl) rfl (cons_ok (bin_ok (var_ok rfl) (var_ok rfl) (ix_nat (xs := ks.map natP) (by simp [get_app hP]) (fun z => by simp) (by rw [List.getElem?_map, q2]; rfl))) rfl (cons_ok (bin_ok (var_ok rfl) (var_ok rfl) (ix_nat (xs := N.map PV.str) rfl (fun z => by simp) (by rw [List.getElem?_map, q1]; rfl))) rfl nil_ok)) hin)), ?_, _, rfl⟩
      have el : (A ++ [A.length]).length = A.length + 1 := by simp
      rw [el]
  rw [List.length_range, Nat.sub_self, List.drop_zero, List.drop_zero] at h2
  subst h2 h3
  exact fn_rt (seq_nx (set_ok (lst_ok nil_ok (by simp)) rfl) (seq_nx h1 (ret_ok (fn1_ok (var_ok rfl) (by simp [fTuple]))))) (gc_app (by simp))
/-! ### the foremost place -/
theorem rep_zero {x : PV} {n i : Nat} {ρ : LEnv} {S : Store} (hv : ρ[i]? = some (some x)) (h : fLen [x] S = some (.int (n : Nat))) (hn : n ≤ 1000) : dBin oMulG (dLst (dCons (dLit (.int 0)) dNil)) (dFn fLen (dConsX (dVar i) dNil)) ρ S = .ok (.tmp ((List.replicate n 0).map natP)) S := by
  have h63 : (2 : Int) ^ 63 = 9223372036854775808 := by decide
  refine bin_ok (lst_ok (cons_ok lit_ok rfl nil_ok) (by simp)) (fn1_ok (var_ok hv) h) (oMulG_of ?_)
  simp only [oMulZ, mutOf]
  rw [h63, if_pos ⟨by omega, by omega, by simp; omega⟩]
  congr 2
  rw [Int.toNat_natCast]
  clear h hn
  induction n with
  | zero => rfl
  | succ n ih => rw [List.replicate_succ, List.flatten_cons, ih, List.replicate_succ]; rfl
theorem fm_step {cs : List Nat} {i k : Nat} (hk : k < i) (hi : i < cs.length) : ∃ c, cs[i - (k + 1)]? = some c ∧ fmS (cs.drop (i - (k + 1))) (k + 1) = (if fmS (cs.drop (i - k)) k + 1 ≤ c then fmS (cs.drop (i - k)) k else fmS (cs.drop (i - k)) k + 1) ∧
    fmP (cs.drop (i - (k + 1))) (k + 1) = (if fmS (cs.drop (i - k)) k + 1 ≤ c then fmS (cs.drop (i - k)) k + 1 else 0) :: fmP (cs.drop (i - k)) k := by
  have h : i - (k + 1) < cs.length := by omega
  refine ⟨cs[i - (k + 1)], List.getElem?_eq_getElem h, ?_⟩
  rw [List.drop_eq_getElem_cons h, show i - (k + 1) + 1 = i - k by omega]
  exact ⟨rfl, rfl⟩
theorem fmS_le (cs : List Nat) (i : Nat) : fmS cs i ≤ i := by
  induction i generalizing cs with
  | zero => cases cs <;> simp [fmS]
  | succ i ih =>
    cases cs with
    | nil => simp [fmS]
    | cons c cs =>
      have := ih cs
      simp only [fmS]
      split <;> omega
theorem rep_set (p v : Nat) (l : List Nat) : (List.replicate (p + 1) 0 ++ l).set p v = List.replicate p 0 ++ v :: l := by
  induction p with
  | zero => rfl
  | succ p ih => rw [List.replicate_succ, List.cons_append, List.set_cons_succ, ih, List.replicate_succ]; rfl
theorem rep_zero_cons (p : Nat) (l : List Nat) : List.replicate (p + 1) 0 ++ l = List.replicate p 0 ++ 0 :: l := by rw [List.replicate_succ']; simp
theorem fmP_len : ∀ {cs : List Nat} {i : Nat}, i < cs.length → (fmP cs i).length = cs.length
  | c :: cs, 0, _ => by simp [fmP]
  | c :: cs, i + 1, h => by simp [fmP, fmP_len (cs := cs) (i := i) (by simpa using h)]
noncomputable def fmBody : DS := (dIfS (dTst (dBin oGe (dBin oIx (dVar 0) (dVar 4)) (dBin oAdd (dVar 3) (dLit (.int 1))))) (dStore (dBin oAdd (dVar 3) (dLit (.int 1))) (dVar 2) (dVar 4)) (dAugP 3 iAddP (dLit (.int 1))))
theorem setL_ok {n p : Nat} {S : Store} {xs : List PV} {v : PV} (h : S[n]? = some (.lst xs)) (hp : p < xs.length) : oSetL (.ref .lst n) (natP p) v S = some (S.set n (.lst (xs.set p v))) := by
  have hx : L2.ixN xs.length ((p : Nat) : Int) = some p := by
    unfold L2.ixN
    rw [if_pos (by omega), if_pos (by omega)]; simp
  simp only [oSetL, natP, h, hx]
theorem fm_turn {C F s p c : Nat} {cs qs : List Nat} {y : Option PV} {S : Store} (hC : S[C]? = some (.lst (cs.map natP))) (hF : S[F]? = some (.lst (qs.map natP))) (hc : cs[p]? = some c) (hp : p < qs.length) :
    fmBody [some (.ref .lst C), y, some (.ref .lst F), some (natP s), some (natP p)] S = .ok (.nx [some (.ref .lst C), y, some (.ref .lst F), some (natP (if s + 1 ≤ c then s else s + 1)), some (natP p)]) (if s + 1 ≤ c then S.set F (.lst ((qs.set p (s + 1)).map natP)) else S) := by
  have h1 : dBin oIx (dVar 0) (dVar 4) [some (.ref .lst C), y, some (.ref .lst F), some (natP s), some (natP p)] S = .ok (natP c) S :=
    bin_ok (var_ok rfl) (var_ok rfl) (ix_nat (xs := cs.map natP) (by simp [hC]) (fun z => by simp) (by rw [List.getElem?_map, hc]; rfl))
  have h2 : dBin oAdd (dVar 3) (dLit (.int 1)) [some (.ref .lst C), y, some (.ref .lst F), some (natP s), some (natP p)] S = .ok (natP (s + 1)) S := bin_ok (var_ok rfl) lit_ok (by simp [natP])
  by_cases h : s + 1 ≤ c
  · rw [if_pos h, if_pos h]
    refine ifs_t (tst_ok (bin_ok h1 h2 (z := .bl true) (by simp [natP, oGe_int]; omega))) ?_
    have hs : oSetL (.ref .lst F) (natP p) (natP (s + 1)) S = some (S.set F (.lst ((qs.set p (s + 1)).map natP))) := by
      rw [setL_ok hF (by simpa using hp), List.map_set]
    rw [dStore_eq, h2]
    simp only [Res.bind_ok, bnd_nat, dVar_eq, List.getElem?_cons_succ, List.getElem?_cons_zero, hs]
  · rw [if_neg h, if_neg h]
    refine ifs_f (tst_ok (bin_ok h1 h2 (z := .bl false) (by simp [natP, oGe_int]; omega))) ?_
    have ha : iAddP (natP s) (.int 1) S = some (natP (s + 1), S) := by simp [iAddP, natP]
    rw [dAugP_eq]
    simp only [List.getElem?_cons_succ, List.getElem?_cons_zero, dLit_eq, Res.bind_ok, ha, bnd_nat]
    rfl
theorem ev_foremost {C i : Nat} {cs : List Nat} {S : Store} (hC : S[C]? = some (.lst (cs.map natP))) (hi : i < cs.length) (hl : cs.length ≤ 1000) :
    F_foremost [.ref .lst C, natP i] S = .ok (.tup [natP (fmS cs i + 1), .ref .lst S.length]) (S ++ [.lst ((fmP cs i).map natP)]) := by
  have hr := ran3_ok (r := dCons (dBin oSub (dVar 1) (dLit (.int 1))) (dCons (dUn oNeg (dLit (.int 1))) (dCons (dUn oNeg (dLit (.int 1))) dNil))) (ρ := [some (.ref .lst C), some (natP i), some (.ref .lst S.length), some (natP 0), none]) (S := S ++ [.lst ((List.replicate cs.length 0).map natP)]) (S1 := S ++ [.lst ((List.replicate cs.length 0).map natP)])
    (i := (i : Int) - 1) (j := -1) (cons_ok (bin_ok (var_ok rfl) lit_ok rfl) rfl (cons_ok neg1 rfl (cons_ok neg1 rfl nil_ok))) (by omega) (by omega) (by omega) (by omega)
  rw [show ((i : Int) - 1 - -1).toNat = i by omega] at hr
  obtain ⟨ρ', S', h1, h2, x, h3⟩ := forM (b := fmBody) (g := gSet 4) (xs := List.range i) (F := fun (k : Nat) => PV.int ((i : Int) - 1 - (k : Int))) hr rfl
    (fun A ρ S' => S' = S ++ [.lst ((List.replicate (i - A.length) 0 ++ fmP (cs.drop (i - A.length)) A.length).map natP)] ∧ ∃ x, ρ = [some (.ref .lst C), some (natP i), some (.ref .lst S.length), some (natP (fmS (cs.drop (i - A.length)) A.length)), x]) (fun A ρ S' _ => rfl)
    ⟨by
      have e : cs.drop i = cs[i] :: cs.drop (i + 1) := List.drop_eq_getElem_cons hi
      simp only [List.length_nil, Nat.sub_zero, e, fmP]
      rw [List.replicate_append_replicate, show i + ((cs.drop (i + 1)).length + 1) = cs.length by simp; omega], none, by
      have e : cs.drop i = cs[i] :: cs.drop (i + 1) := List.drop_eq_getElem_cons hi
      simp only [List.length_nil, Nat.sub_zero, e, fmS]⟩ fun A a B ρ S' e ⟨e1, x, e2⟩ => by
      subst e1 e2
      obtain ⟨rfl, hlt⟩ := range_part e
      obtain ⟨c, q1, q2, q3⟩ := fm_step (cs := cs) hlt hi
      have hpl : (i : Int) - 1 - (A.length : Int) = ((i - (A.length + 1) : Nat) : Int) := by omega
      have el : (A ++ [A.length]).length = A.length + 1 := by simp
      have tn := fm_turn (C := C) (F := S.length) (s := fmS (cs.drop (i - A.length)) A.length) (p := i - (A.length + 1)) (c := c) (cs := cs) (qs := List.replicate (i - A.length) 0 ++ fmP (cs.drop (i - A.length)) A.length) (y := some (natP i)) (S := S ++ [.lst ((List.replicate (i - A.length) 0 ++ fmP (cs.drop (i - A.length)) A.length).map natP)])
        (get_app hC) (by simp) q1 (by simp; omega)
      refine ⟨[some (.ref .lst C), some (natP i), some (.ref .lst S.length), some (natP (fmS (cs.drop (i - A.length)) A.length)), some (natP (i - (A.length + 1)))], _, _, by rw [hpl]; rfl, .inl tn, ?_, _, by rw [el, q2]⟩
      rw [el, q3, set_snoc]
      have e4 : List.replicate (i - A.length) 0 = List.replicate (i - (A.length + 1) + 1) 0 := by congr 1; omega
      by_cases h : fmS (cs.drop (i - A.length)) A.length + 1 ≤ c
      · rw [if_pos h, if_pos h, e4, rep_set]
      · rw [if_neg h, if_neg h, e4, rep_zero_cons]
  rw [List.length_range, Nat.sub_self, List.drop_zero] at h2 h3
  subst h2 h3
  refine fn_rt (seq_nx (set_ok (rep_zero (n := cs.length) rfl (by rw [fLen_ref hC]; simp) hl) rfl) (seq_nx (set_ok lit_ok rfl) (seq_nx h1 (ret_ok (tup_ok (cons_ok (bin_ok (var_ok rfl) lit_ok rfl) rfl (cons_ok (var_ok rfl) rfl nil_ok)) (by simp)))))) ?_
  unfold gc
  rw [if_neg (fun h => by have := h.2; simp [outV] at this)]
  simp [natP]
/-! ### orders by which one is as far to the front, to the back, as in any -/
theorem lsP_set : ∀ {cs : List Nat} {i c : Nat}, cs[i]? = some c → (List.replicate cs.length 0).set i c = lsP cs i
  | c :: cs, 0, c', h => by
    simp at h; subst h
    simp [lsP, List.replicate_succ]
  | c :: cs, i + 1, c', h => by
    simp only [List.length_cons, List.replicate_succ, List.set_cons_succ, lsP]
    rw [lsP_set (by simpa using h)]
theorem ev_ends {L : List (Str × Int)} (hL : Line L) {i : Nat} {n : Str} (h : (L.map (·.1))[i]? = some n) (S : Store) :
    F_ends [lineP L, .str n] S = .ok (.tup [.tup ((ordC (L.map (·.1)) (fmP (capsL L) i)).map PV.str), .tup ((ordC (L.map (·.1)) (lsP (capsL L) i)).map PV.str)]) S := by
  have hi := names_get h
  have hl := hL.len
  have hcl := capsL_len L
  have hci : i < (capsL L).length := by rw [hcl]; exact hi
  obtain ⟨c, hc⟩ : ∃ c, (capsL L)[i]? = some c := ⟨_, List.getElem?_eq_getElem hci⟩
  have hcc := caps_le hl c (List.mem_of_getElem? hc)
  obtain ⟨f1, f2, f3⟩ := fm_ok hci
  obtain ⟨g1, g2, g3⟩ := ls_ok hc
  have hle : ∀ {ks : List Nat}, ks ∈ codes (capsL L) → ∀ k ∈ ks, k ≤ 1000 := fun {ks} hk k hm => by
    obtain ⟨j, hj, e⟩ := List.mem_iff_getElem.mp hm
    have hj2 : j < (capsL L).length := by rw [← code_len hk]; exact hj
    have := (mem_codes.mp hk).2 j k _ (by rw [List.getElem?_eq_getElem hj, e]) (List.getElem?_eq_getElem hj2)
    have := caps_le hl _ (List.getElem_mem hj2)
    omega
  let S1 := S ++ [.lst ((capsL L).map natP)]
  let S2 := S1 ++ [.lst ((List.replicate L.length 0).map natP)]
  let S3 := S1 ++ [.lst ((lsP (capsL L) i).map natP)]
  let S4 := S3 ++ [.lst ((fmP (capsL L) i).map natP)]
  have l1 : S1.length = S.length + 1 := by simp [S1]
  have l3 : S3.length = S.length + 2 := by simp [S3, S1]
  have a1 := ev_names_of hl S
  have a2 := ev_caps hl hL.nn S
  have a3 := ev_idx hL h S1
  have a4 := ev_foremost (C := S.length) (i := i) (cs := capsL L) (S := S3) (by simp [S3, S1]) hci (by omega)
  have a5 := ev_order_by (P := S.length + 2) (N := L.map (·.1)) (ks := fmP (capsL L) i) (S := S4) (by rw [← l3]; simp [S4]) (by rw [code_len f1, hcl]; simp) (by simpa using hl) (hle f1)
  have a6 := ev_order_by (P := S.length + 1) (N := L.map (·.1)) (ks := lsP (capsL L) i) (S := S4) (by rw [← l1]; simp [S4, S3]) (by rw [code_len g1, hcl]; simp) (by simpa using hl) (hle g1)
  rw [l3] at a4
  have ns : lineP L = .tup (L.map rowP) := rfl
  have hnn : dDrop (dCall 2 F_need_name (dCons (dVar 0) (dCons (dVar 1) dNil))) [some (lineP L), some (.str n), none, none, none, none] S = .ok (.nx [some (lineP L), some (.str n), none, none, none, none]) S :=
    drop_ok (call_ok (cons_ok (var_ok rfl) (bnd_line L S) (cons_ok (var_ok rfl) rfl nil_ok)) rfl (ev_need_name hL (List.mem_of_getElem? h) S))
  have hp : dPar 2 3 (dCons (dCall 1 F_names_of (dCons (dVar 0) dNil)) (dCons (dCall 1 F_caps_of (dCons (dVar 0) dNil)) dNil)) [some (lineP L), some (.str n), none, none, none, none] S =
      .ok (.nx [some (lineP L), some (.str n), some (.tup ((L.map (·.1)).map PV.str)), some (.ref .lst S.length), none, none]) S1 :=
    par_ok (cons_ok (call_ok (cons_ok (var_ok rfl) (bnd_line L S) nil_ok) rfl a1) rfl (cons_ok (call_ok (cons_ok (var_ok rfl) (bnd_line L S) nil_ok) rfl a2) rfl nil_ok))
  have hat : dSet 4 (dMeth2 mIndex (dVar 2) (dCons (dVar 1) dNil)) [some (lineP L), some (.str n), some (.tup ((L.map (·.1)).map PV.str)), some (.ref .lst S.length), none, none] S1 =
      .ok (.nx [some (lineP L), some (.str n), some (.tup ((L.map (·.1)).map PV.str)), some (.ref .lst S.length), some (natP i), none]) S1 :=
    set_ok (meth2_ok (var_ok rfl) (.inr rfl) (cons_ok (var_ok rfl) rfl nil_ok) a3) rfl
  have hls : dSet 5 (dBin oMulG (dLst (dCons (dLit (.int 0)) dNil)) (dFn fLen (dConsX (dVar 2) dNil))) [some (lineP L), some (.str n), some (.tup ((L.map (·.1)).map PV.str)), some (.ref .lst S.length), some (natP i), none] S1 =
      .ok (.nx [some (lineP L), some (.str n), some (.tup ((L.map (·.1)).map PV.str)), some (.ref .lst S.length), some (natP i), some (.ref .lst (S.length + 1))]) S2 := by
    rw [← l1]
    exact set_ok (rep_zero (n := L.length) rfl (by simp) hl) rfl
  have hst : dStore (dBin oIx (dVar 3) (dVar 4)) (dVar 5) (dVar 4) [some (lineP L), some (.str n), some (.tup ((L.map (·.1)).map PV.str)), some (.ref .lst S.length), some (natP i), some (.ref .lst (S.length + 1))] S2 =
      .ok (.nx [some (lineP L), some (.str n), some (.tup ((L.map (·.1)).map PV.str)), some (.ref .lst S.length), some (natP i), some (.ref .lst (S.length + 1))]) S3 := by
    have h1 : dBin oIx (dVar 3) (dVar 4) [some (lineP L), some (.str n), some (.tup ((L.map (·.1)).map PV.str)), some (.ref .lst S.length), some (natP i), some (.ref .lst (S.length + 1))] S2 = .ok (natP c) S2 :=
      bin_ok (var_ok rfl) (var_ok rfl) (ix_nat (xs := (capsL L).map natP) (by simp [S2, S1]) (fun z => by simp) (by rw [List.getElem?_map, hc]; rfl))
    have h2 := setL_ok (n := S.length + 1) (p := i) (S := S2) (xs := (List.replicate L.length 0).map natP) (v := natP c) (by rw [← l1]; simp [S2]) (by simpa using hi)
    rw [← List.map_set, ← hcl, lsP_set hc, ← l1, set_snoc, l1] at h2
    rw [dStore_eq, h1]
    simp only [Res.bind_ok, bnd_nat, dVar_eq, List.getElem?_cons_succ, List.getElem?_cons_zero, h2]
    rfl
  have hfm : dBin oIx (dCall 2 F_foremost (dCons (dVar 3) (dCons (dVar 4) dNil))) (dLit (.int 1)) [some (lineP L), some (.str n), some (.tup ((L.map (·.1)).map PV.str)), some (.ref .lst S.length), some (natP i), some (.ref .lst (S.length + 1))] S3 = .ok (.ref .lst (S.length + 2)) S4 :=
    bin_ok (call_ok (cons_ok (var_ok rfl) rfl (cons_ok (var_ok rfl) rfl nil_ok)) rfl a4) lit_ok (by simp [oIx, atP, L2.atI, L2.ixN])
  have hret : dTup (dCons (dCall 2 F_order_by (dCons (dVar 2) (dCons (dBin oIx (dCall 2 F_foremost (dCons (dVar 3) (dCons (dVar 4) dNil))) (dLit (.int 1))) dNil))) (dCons (dCall 2 F_order_by (dCons (dVar 2) (dCons (dVar 5) dNil))) dNil)) [some (lineP L), some (.str n), some (.tup ((L.map (·.1)).map PV.str)), some (.ref .lst S.length), some (natP i), some (.ref .lst (S.length + 1))] S3 =
      .ok (.tup [.tup ((ordC (L.map (·.1)) (fmP (capsL L) i)).map PV.str), .tup ((ordC (L.map (·.1)) (lsP (capsL L) i)).map PV.str)]) S4 :=
    tup_ok (cons_ok (call_ok (cons_ok (var_ok rfl) rfl (cons_ok hfm rfl nil_ok)) rfl a5) rfl
      (cons_ok (call_ok (cons_ok (var_ok rfl) rfl (cons_ok (var_ok rfl) rfl nil_ok)) rfl a6) rfl nil_ok)) (by simp)
  refine fn_rt (seq_nx hnn (seq_nx hp (seq_nx hat (seq_nx hls (seq_nx hst (ret_ok hret)))))) ?_
  have e4 : S4 = S ++ [.lst ((capsL L).map natP), .lst ((lsP (capsL L) i).map natP), .lst ((fmP (capsL L) i).map natP)] := by simp [S4, S3, S1]
  rw [e4]
  exact gc_app (by simp)
end My

set_option Elab.async false
set_option linter.all false
set_option maxRecDepth 100000
set_option maxHeartbeats 4000000
namespace My
open PySem Z
theorem sum_natP {α : Type} (f : α → Nat) (l : List α) (S : Store) : fSum [.tmp (l.map fun a => natP (f a))] S = some (natP (l.map f).sum) := by
  have e : intsOf (l.map fun a => natP (f a)) = some (l.map fun a => ((f a : Nat) : Int)) := intsOf_map' (fun a => ((f a : Nat) : Int)) l
  have := nat_sum (l.map f)
  rw [List.map_map] at this
  have h2 : (l.map fun a => ((f a : Nat) : Int)).sum = ((l.map f).sum : Nat) := this
  simp only [fSum, lstOf_tmp, Option.bind_some]
  rw [e]
  simp only [Option.map_some, natP]
  rw [h2]
theorem ahead_le (cs : List Nat) (i j : Nat) : cntAhead cs i j ≤ prodN cs := by
  unfold cntAhead
  rw [← codes_len]
  exact List.countP_le_length
theorem big_prod {cs : List Nat} (hc : ∀ c ∈ cs, c ≤ 1000) (hl : cs.length ≤ 1000) {n : Nat} (h : n ≤ prodN cs) : n.log2 < 10001 :=
  log2_small (Nat.lt_of_le_of_lt h (Nat.lt_of_lt_of_le (prod_lt cs hc) (Nat.pow_le_pow_right (by omega) (by omega)))) (by omega)
theorem prod_take (cs : List Nat) (k : Nat) : prodN cs = prodN (cs.take k) * prodN (cs.drop k) := by
  induction k generalizing cs with
  | zero => simp [prodN]
  | succ k ih =>
    cases cs with
    | nil => simp [prodN]
    | cons c cs => simp only [List.take_succ_cons, List.drop_succ_cons, prodN]; rw [ih cs, Nat.mul_assoc]
/-- the sum over the ways -/
theorem ah_sum {D : Tb} {c k W C : Nat} {S1 : Store} {caps : List Nat} {a0 a1 a2 a5 : Option PV} {b : Nat} (hC : S1[C]? = some (.lst (caps.map natP))) (hc : caps[k]? = some c) (hW : W = S1.length) (hcc : c ≤ 1000) (hm : ∀ a ∈ D, a.2 < 2 ^ b) (hb : 0 < b) (hb2 : b ≤ 900000) (hD : D.length ≤ 10000) :
    dFn fSum (dConsX (dLockE 6 (dLc (iItm 6) (gTupZ (gAnd (gSet 8) (gAnd (gSet 9) gNon))) dYes (dBin oMulG (dVar 9) (dFn fMax (dConsX (dLit (.int 0)) (dConsX (dBin oSub (dBin oAdd (dBin oIx (dVar 3) (dVar 4)) (dLit (.int 1))) (dVar 8)) dNil)))) [8, 9])) dNil)
      [a0, a1, a2, some (.ref .lst C), some (natP k), a5, some (.ref .dic W), none, none, none, none] (S1 ++ [.dic (tbK D) (tbV D)]) = .ok (natP (D.map fun a => a.2 * (c + 1 - a.1)).sum) (S1 ++ [.dic (tbK D) (tbV D)]) := by
  subst hW
  have hC2 : ∀ E, (S1 ++ E)[C]? = some (.lst (caps.map natP)) := fun E => get_app hC
  have hlc : dLc (iItm 6) (gTupZ (gAnd (gSet 8) (gAnd (gSet 9) gNon))) dYes (dBin oMulG (dVar 9) (dFn fMax (dConsX (dLit (.int 0)) (dConsX (dBin oSub (dBin oAdd (dBin oIx (dVar 3) (dVar 4)) (dLit (.int 1))) (dVar 8)) dNil)))) [8, 9]
      [a0, a1, a2, some (.ref .lst C), some (natP k), a5, some (.ref .dic S1.length), none, none, none, none] (S1 ++ [.lck (tbK D) (tbV D)]) = .ok (.tmp (D.map fun a => natP (a.2 * (c + 1 - a.1)))) (S1 ++ [.lck (tbK D) (tbV D)]) := by
    refine lcM_all (f := itmS S1.length) (xs := D) (F := fun a => PV.tup [natP a.1, natP a.2]) (by simp [iItm]) (by simp only [itmS, get_snoc, items_tb]) _ (fun a ha => ⟨[a0, a1, a2, some (.ref .lst C), some (natP k), a5, some (.ref .dic S1.length), none, some (natP a.1), some (natP a.2), none], rfl, ?_, rfl⟩) (by omega)
    have h1 : dBin oSub (dBin oAdd (dBin oIx (dVar 3) (dVar 4)) (dLit (.int 1))) (dVar 8) [a0, a1, a2, some (.ref .lst C), some (natP k), a5, some (.ref .dic S1.length), none, some (natP a.1), some (natP a.2), none] (S1 ++ [.lck (tbK D) (tbV D)]) = .ok (.int ((c : Int) + 1 - a.1)) (S1 ++ [.lck (tbK D) (tbV D)]) :=
      bin_ok (x := .int ((c : Int) + 1)) (bin_ok (x := natP c) (bin_ok (var_ok rfl) (var_ok rfl) (ix_nat (xs := caps.map natP) (by simp [hC2]) (fun z => by simp) (by rw [List.getElem?_map, hc]; rfl))) lit_ok (by simp [natP])) (var_ok rfl) (by simp [natP])
    have h2 : dFn fMax (dConsX (dLit (.int 0)) (dConsX (dBin oSub (dBin oAdd (dBin oIx (dVar 3) (dVar 4)) (dLit (.int 1))) (dVar 8)) dNil)) [a0, a1, a2, some (.ref .lst C), some (natP k), a5, some (.ref .dic S1.length), none, some (natP a.1), some (natP a.2), none] (S1 ++ [.lck (tbK D) (tbV D)]) = .ok (natP (c + 1 - a.1)) (S1 ++ [.lck (tbK D) (tbV D)]) := by
      rw [dFn_eq, dConsX_eq, dLit_eq]
      simp only [Res.bind_ok]
      rw [dConsX_eq, h1]
      simp only [Res.bind_ok, dNil_eq, fMax, ofO_some, natP]
      congr 2
      omega
    exact bin_ok (var_ok rfl) h2 (mul_wide (hm a ha) hb hb2 (by omega) _)
  refine fn1_ok (x := .tmp (D.map fun a => natP (a.2 * (c + 1 - a.1)))) ?_ (sum_natP _ _ _)
  unfold dLockE
  simp only [List.getElem?_cons_succ, List.getElem?_cons_zero, get_snoc, set_snoc, hlc, unlk]
theorem ev_ahead {L : List (Str × Int)} (hL : Line L) {i j : Nat} {n m : Str} (hi : (L.map (·.1))[i]? = some n) (hj : (L.map (·.1))[j]? = some m) (hij : i ≠ j) (S : Store) : F_ahead_in [lineP L, .str n, .str m] S = .ok (natP (cntAhead (capsL L) i j)) S := by
  have hi2 := names_get hi
  have hj2 := names_get hj
  have hl := hL.len
  have hcl := capsL_len L
  have hok := capsL_ok L
  have hle := caps_le hl
  have hnm : m ≠ n := fun e => hij (by
    have h1 := idx_at hL.2.2.2 hi
    have h2 := idx_at hL.2.2.2 hj
    rw [← h1, ← h2, e])
  obtain ⟨c, c1, c2⟩ := drop_at (cs := capsL L) (p := min i j) (by omega)
  have hcc := hle c (List.mem_of_getElem? c1)
  let S1 := S ++ [.lst ((capsL L).map natP)]
  let D := waysT ((capsL L).drop (min i j + 1)) (max i j - (min i j + 1))
  let S2 := S1 ++ [.dic (tbK D) (tbV D)]
  let S3 := S2 ++ [.lst (((capsL L).take (min i j)).map fun c => natP (c + 1))]
  let S4 := S3 ++ [.lst ((capsL L).map fun c => natP (c + 1))]
  have l1 : S1.length = S.length + 1 := by simp [S1]
  have a0 := ev_need_name hL (List.mem_of_getElem? hi) S
  have a1 := ev_names_of hl S
  have a2 := ev_caps hl hL.nn S
  have a3 := ev_names_of hl S1
  have a4 := ev_idx hL hi S1
  have a5 := ev_idx hL hj S1
  have a6 := ev_ways (Rn := S.length) (at_ := max i j) (f := min i j + 1) (S := S1) (cs := capsL L) (by simp [S1]) (by omega) (by omega) hok hle (by omega)
  have a7 := ev_names_of hl S3
  obtain ⟨w1, w2, w3⟩ := ways_bound (cs := (capsL L).drop (min i j + 1)) (i := max i j - (min i j + 1)) (codeOk_drop hok _) (by simp; omega) (fun c h => hle c (List.mem_of_mem_drop h)) (by simp; omega)
  have hsum : (D.map fun a => a.2 * (c + 1 - a.1)).sum = cntAhead ((capsL L).drop (min i j)) (max i j - min i j) 0 := by
    rw [c2, show max i j - min i j = (max i j - (min i j + 1)) + 1 by omega]
    exact ways_ahead (codeOk_drop hok _) (by simp; omega)
  have hpass : (D.map fun a => a.2 * (c + 1 - a.1)).sum * prodN ((capsL L).take (min i j)) = cntAhead (capsL L) (max i j) (min i j) := by
    rw [hsum]
    have := ahead_drop ((capsL L).take (min i j)) ((capsL L).drop (min i j)) (max i j - min i j) 0
    rw [List.take_append_drop, List.length_take_of_le (by omega), Nat.add_zero, show min i j + (max i j - min i j) = max i j by omega] at this
    rw [this, Nat.mul_comm]
  have both := ahead_both hok (i := max i j) (j := min i j) (by omega) (by omega) (by omega)
  let E (x3 x4 x5 x6 x7 : Option PV) : LEnv := [some (lineP L), some (.str n), some (.str m), x3, x4, x5, x6, x7, none, none, none]
  have s1 : dDrop (dCall 2 F_need_name (dCons (dVar 0) (dCons (dVar 1) dNil))) (E none none none none none) S = .ok (.nx (E none none none none none)) S :=
    drop_ok (call_ok (cons_ok (var_ok rfl) (bnd_line L S) (cons_ok (var_ok rfl) rfl nil_ok)) rfl a0)
  have hin : oNotIn (.str m) (.tup ((L.map (·.1)).map PV.str)) S = some (.bl false) := by
    have h := in_tup S m (L.map (·.1))
    rw [decide_eq_true (List.mem_of_getElem? hj)] at h
    simp only [oIn, Option.map_eq_some_iff, PV.bl.injEq] at h
    obtain ⟨k, hk, rfl⟩ := h
    simp only [oNotIn, hk, Option.map_some]; rfl
  have s2 : dIfS (dOrT (dNotT (dTst (dIsi [.str] (dVar 2)))) (dOrT (dTst (dBin oNotIn (dVar 2) (dCall 1 F_names_of (dCons (dVar 0) dNil)))) (dTst (dBin oEq (dVar 2) (dVar 1))))) dNever dSkip (E none none none none none) S = .ok (.nx (E none none none none none)) S :=
    ifs_f (or_f (not_ok (tst_ok (isi_ok (k := true) (var_ok rfl) rfl))) (or_f (tst_ok (bin_ok (var_ok rfl) (call_ok (cons_ok (var_ok rfl) (bnd_line L S) nil_ok) rfl a1) hin)) (tst_ok (bin_ok (var_ok rfl) (var_ok rfl) (by rw [oEq_str, decide_eq_false hnm]))))) rfl
  have s3 : dSet 3 (dCall 1 F_caps_of (dCons (dVar 0) dNil)) (E none none none none none) S = .ok (.nx (E (some (.ref .lst S.length)) none none none none)) S1 :=
    set_ok (call_ok (cons_ok (var_ok rfl) (bnd_line L S) nil_ok) rfl a2) rfl
  have s4 : dAsg (gUnlZ (gAnd (gSet 4) (gAnd (gSet 5) gNon))) (dFn fSortedA (dConsX (dLst (dCons (dMeth2 mIndex (dCall 1 F_names_of (dCons (dVar 0) dNil)) (dCons (dVar 1) dNil)) (dCons (dMeth2 mIndex (dCall 1 F_names_of (dCons (dVar 0) dNil)) (dCons (dVar 2) dNil)) dNil))) dNil)) (E (some (.ref .lst S.length)) none none none none) S1 =
      .ok (.nx (E (some (.ref .lst S.length)) (some (natP (min i j))) (some (natP (max i j))) none none)) S1 := by
    have hx : dLst (dCons (dMeth2 mIndex (dCall 1 F_names_of (dCons (dVar 0) dNil)) (dCons (dVar 1) dNil)) (dCons (dMeth2 mIndex (dCall 1 F_names_of (dCons (dVar 0) dNil)) (dCons (dVar 2) dNil)) dNil)) (E (some (.ref .lst S.length)) none none none none) S1 = .ok (.tmp ([(i : Int), (j : Int)].map .int)) S1 :=
      lst_ok (cons_ok (meth2_ok (call_ok (cons_ok (var_ok rfl) (bnd_line L S1) nil_ok) rfl a3) (.inr rfl) (cons_ok (var_ok rfl) rfl nil_ok) a4) rfl (cons_ok (meth2_ok (call_ok (cons_ok (var_ok rfl) (bnd_line L S1) nil_ok) rfl a3) (.inr rfl) (cons_ok (var_ok rfl) rfl nil_ok) a5) rfl nil_ok)) (by simp)
    refine asg_ok (fn1_ok hx fSortedA_ints) ?_
    rw [sortI_two]
    have e1 : min (i : Int) (j : Int) = ((min i j : Nat) : Int) := by omega
    have e2 : max (i : Int) (j : Int) = ((max i j : Nat) : Int) := by omega
    rw [e1, e2]; rfl
  have s5 : dSet 6 (dCall 3 F_ways_at (dCons (dVar 3) (dCons (dVar 5) (dCons (dBin oAdd (dVar 4) (dLit (.int 1))) dNil)))) (E (some (.ref .lst S.length)) (some (natP (min i j))) (some (natP (max i j))) none none) S1 =
      .ok (.nx (E (some (.ref .lst S.length)) (some (natP (min i j))) (some (natP (max i j))) (some (.ref .dic S1.length)) none)) S2 :=
    set_ok (call_ok (cons_ok (var_ok rfl) rfl (cons_ok (var_ok rfl) rfl (cons_ok (y := natP (min i j + 1)) (bin_ok (var_ok rfl) lit_ok (z := natP (min i j + 1)) (by simp [natP])) rfl nil_ok))) rfl a6) rfl
  have s6 : dSet 7 (dFn fSum (dConsX (dLockE 6 (dLc (iItm 6) (gTupZ (gAnd (gSet 8) (gAnd (gSet 9) gNon))) dYes (dBin oMulG (dVar 9) (dFn fMax (dConsX (dLit (.int 0)) (dConsX (dBin oSub (dBin oAdd (dBin oIx (dVar 3) (dVar 4)) (dLit (.int 1))) (dVar 8)) dNil)))) [8, 9])) dNil)) (E (some (.ref .lst S.length)) (some (natP (min i j))) (some (natP (max i j))) (some (.ref .dic S1.length)) none) S2 =
      .ok (.nx (E (some (.ref .lst S.length)) (some (natP (min i j))) (some (natP (max i j))) (some (.ref .dic S1.length)) (some (natP (D.map fun a => a.2 * (c + 1 - a.1)).sum)))) S2 :=
    set_ok (ah_sum (C := S.length) (caps := capsL L) (by simp [S1]) c1 rfl hcc (fun a ha => (w3 a ha).1) (by omega) (by omega) (by show (waysT _ _).length ≤ _; omega)) rfl
  have b1 : (D.map fun a => a.2 * (c + 1 - a.1)).sum.log2 < 10001 := by
    rw [hsum]
    exact big_prod (cs := (capsL L).drop (min i j)) (fun c h => hle c (List.mem_of_mem_drop h)) (by simp; omega) (ahead_le _ _ _)
  have b2 : (prodN ((capsL L).take (min i j))).log2 < 10001 := big_prod (cs := (capsL L).take (min i j)) (fun c h => hle c (List.mem_of_mem_take h)) (by simp; omega) (Nat.le_refl _)
  have s7 : dAugP 7 iMulG (dCall 1 F_product (dCons (dLc (iAny (dSl (dVar 3) dNo (dPart (dVar 4)))) (gSet 10) dYes (dBin oAdd (dVar 10) (dLit (.int 1))) [10]) dNil)) (E (some (.ref .lst S.length)) (some (natP (min i j))) (some (natP (max i j))) (some (.ref .dic S1.length)) (some (natP (D.map fun a => a.2 * (c + 1 - a.1)).sum))) S2 =
      .ok (.nx (E (some (.ref .lst S.length)) (some (natP (min i j))) (some (natP (max i j))) (some (.ref .dic S1.length)) (some (natP (cntAhead (capsL L) (max i j) (min i j)))))) S3 := by
    refine aug_ok rfl (ev_prodc (cs := (capsL L).take (min i j)) (x := .tmp (((capsL L).take (min i j)).map natP)) ?_ rfl (fun z => by simp) (by simp [E]) (fun c h => hle c (List.mem_of_mem_take h)) (by simp; omega)) (z := natP (cntAhead (capsL L) (max i j) (min i j))) ?_ rfl
    · have hcut : cutP ((capsL L).map natP) none (some ((min i j : Nat) : Int)) = ((capsL L).take (min i j)).map natP := by rw [cutP_take, List.map_take]
      simp only [dSl_eq, dVar_eq, E, List.getElem?_cons_succ, List.getElem?_cons_zero, Res.bind_ok, dNo_eq, dPart_eq, natP, slP, lstOf_ref]
      have hS : S2[S.length]? = some (.lst ((capsL L).map natP)) := by simp [S2, S1]
      rw [hS]
      simp only [Option.map_some, ofO_some]
      rw [hcut]
    · simp only [iMulG, natP]
      rw [if_pos (by simp only [Int.natAbs_natCast]; omega), ← hpass, Int.natCast_mul]
      rfl
  have hnx : ∀ k x, (L.map (·.1))[k]? = some x → oIx (.tup ((L.map (·.1)).map PV.str)) (natP k) S3 = some (.str x) := fun k x h => ix_nat (xs := (L.map (·.1)).map PV.str) rfl (fun z => by simp) (by rw [List.getElem?_map, h]; rfl)
  have e4 : S4 = S ++ [.lst ((capsL L).map natP), .dic (tbK D) (tbV D), .lst (((capsL L).take (min i j)).map fun c => natP (c + 1)), .lst ((capsL L).map fun c => natP (c + 1))] := by simp [S4, S3, S2, S1]
  have e3 : S3 = S ++ [.lst ((capsL L).map natP), .dic (tbK D) (tbV D), .lst (((capsL L).take (min i j)).map fun c => natP (c + 1))] := by simp [S3, S2, S1]
  by_cases hlt : i < j
  · have m1 : min i j = i := by omega
    have m2 : max i j = j := by omega
    have t : dTst (dBin oEq (dBin oIx (dCall 1 F_names_of (dCons (dVar 0) dNil)) (dVar 5)) (dVar 1)) (E (some (.ref .lst S.length)) (some (natP (min i j))) (some (natP (max i j))) (some (.ref .dic S1.length)) (some (natP (cntAhead (capsL L) (max i j) (min i j))))) S3 = .ok false S3 :=
      tst_ok (bin_ok (x := .str m) (bin_ok (call_ok (cons_ok (var_ok rfl) (bnd_line L S3) nil_ok) rfl a7) (var_ok rfl) (hnx _ m (by rw [m2]; exact hj))) (var_ok rfl) (by rw [oEq_str, decide_eq_false hnm]))
    have hfin : dBin oSub (dCall 1 F_product (dCons (dLc (iAny (dVar 3)) (gSet 10) dYes (dBin oAdd (dVar 10) (dLit (.int 1))) [10]) dNil)) (dVar 7) (E (some (.ref .lst S.length)) (some (natP (min i j))) (some (natP (max i j))) (some (.ref .dic S1.length)) (some (natP (cntAhead (capsL L) (max i j) (min i j))))) S3 = .ok (natP (cntAhead (capsL L) i j)) S4 := by
      refine bin_ok (ev_prodc (cs := capsL L) (x := .ref .lst S.length) (var_ok rfl) (by simp [e3]) (fun z => by simp) (by simp [E]) hle (by omega)) (var_ok rfl) ?_
      simp only [natP, oSub_int]
      congr 2
      rw [m1, m2] at both ⊢
      omega
    refine fn_rt (seq_nx s1 (seq_nx s2 (seq_nx s3 (seq_nx s4 (seq_nx s5 (seq_nx s6 (seq_nx s7 (seq_nx (ifs_f t rfl) (ret_ok hfin))))))))) ?_
    rw [e4]
    exact gc_app rfl
  · have m1 : min i j = j := by omega
    have m2 : max i j = i := by omega
    have t : dTst (dBin oEq (dBin oIx (dCall 1 F_names_of (dCons (dVar 0) dNil)) (dVar 5)) (dVar 1)) (E (some (.ref .lst S.length)) (some (natP (min i j))) (some (natP (max i j))) (some (.ref .dic S1.length)) (some (natP (cntAhead (capsL L) (max i j) (min i j))))) S3 = .ok true S3 :=
      tst_ok (bin_ok (x := .str n) (bin_ok (call_ok (cons_ok (var_ok rfl) (bnd_line L S3) nil_ok) rfl a7) (var_ok rfl) (hnx _ n (by rw [m2]; exact hi))) (var_ok rfl) (by rw [oEq_str, decide_eq_true rfl]))
    refine fn_rt (seq_nx s1 (seq_nx s2 (seq_nx s3 (seq_nx s4 (seq_nx s5 (seq_nx s6 (seq_nx s7 (seq_rt (ifs_t t (ret_ok (var_ok rfl))))))))))) ?_
    rw [m1, m2, e3]
    exact gc_app rfl
end My

set_option Elab.async false
set_option linter.all false
set_option maxRecDepth 100000
set_option maxHeartbeats 4000000
namespace My
open PySem Z
/-! ### the law's own reckoning -/
theorem ev_law_passedG {x0 : PV} {N O : List Str} {S : Store} (hx0 : ∀ E, seqOf x0 (S ++ E) = some (N.map .str)) (hsl : ∀ E (k : Nat), ∃ y, slP x0 (some (k : Int)) none (S ++ E) = some y ∧ (∀ z, y ≠ .str z) ∧ ∀ S', seqOf y S' = some ((N.drop k).map .str)) (hN : N.length ≤ 1000) (hs : ∀ n ∈ N, n ∈ O) : F__law_passed [x0, .tup (O.map .str)] S = .ok (.tmp ((pas O N).map fun (k : Nat) => .int k)) S := by
  obtain ⟨ρ', S', e, v3, v4, v5, h1, h2⟩ := dFor_inv (d := iEnu (dConsX (dVar 0) dNil)) (g := gTupZ (gAnd (gSet 3) (gAnd (gSet 4) gNon))) (b := (dSeq (dSet 5 (dMeth2 mIndex (dVar 1) (dCons (dVar 4) dNil)))
    (dDrop (dMeth .list mAppend (dVar 2) (dCons (dFn fLen (dConsX (dLc (iAny (dSl (dVar 0) (dPart (dBin oAdd (dVar 3) (dLit (.int 1)))) dNo)) (gSet 6) (dTst (dBin oLt (dMeth2 mIndex (dVar 1) (dCons (dVar 6) dNil)) (dVar 5))) (dVar 6) [6]) dNil)) dNil)))))
    (ρ := [some x0, some (.tup (O.map .str)), some (.ref .lst S.length), none, none, none, none]) (S := S ++ [.lst []]) (S1 := S ++ [.lst []]) (f := fun S => (seqOf x0 S).map enumL) (all := enumL (N.map .str))
    (by simp [iEnu, hx0]) (by simp only [hx0, Option.map_some])
    (fun l ρ S' => ∃ v3 v4 v5, ρ = [some x0, some (.tup (O.map .str)), some (.ref .lst S.length), v3, v4, v5, none] ∧ S' = S ++ [.lst (((pas O N).take l.length).map fun (k : Nat) => .int k)])
    (fun l ρ S' ⟨_, _, _, _, h⟩ => by subst h; simp only [hx0, Option.map_some]) ⟨none, none, none, rfl, by simp⟩
    (fun l x r ρ S' hl ⟨v3, v4, v5, h1, h2⟩ => by
      subst h1 h2
      have hx : (enumL (N.map PV.str))[l.length]? = some x := by rw [← hl]; simp
      obtain ⟨y, hy, rfl⟩ := enumL_get hx
      rw [List.getElem?_map, Option.map_eq_some_iff] at hy
      obtain ⟨n, hn, rfl⟩ := hy
      have hnO := hs n (List.mem_of_getElem? hn)
      have hlN : l.length < N.length := (List.getElem?_eq_some_iff.mp hn).1
      have hps : (pas O N)[l.length]? = some ((N.drop (l.length + 1)).countP fun x => decide (O.idxOf x < O.idxOf n)) := by rw [pas_get, hn]; rfl
      refine ⟨_, [some x0, some (.tup (O.map .str)), some (.ref .lst S.length), some (.int (l.length : Nat)), some (.str n), some (.int (O.idxOf n : Nat)), none], S ++ [.lst (((pas O N).take (l.length + 1)).map fun (k : Nat) => .int k)], rfl, .inl ?_, _, _, _, rfl, by simp⟩
      obtain ⟨y, hsl2, hns, hsy⟩ := hsl [.lst (((pas O N).take l.length).map fun (k : Nat) => .int k)] (l.length + 1)
      have hcast : ((l.length + 1 : Nat) : Int) = ((l.length : Nat) : Int) + 1 := by omega
      rw [hcast] at hsl2
      have hlc := dLc_pure (d := iAny (dSl (dVar 0) (dPart (dBin oAdd (dVar 3) (dLit (.int 1)))) dNo)) (g := gSet 6) (t := dTst (dBin oLt (dMeth2 mIndex (dVar 1) (dCons (dVar 6) dNil)) (dVar 5))) (el := dVar 6) (vs := [6])
        (ρ := [some x0, some (.tup (O.map .str)), some (.ref .lst S.length), some (.int (l.length : Nat)), some (.str n), some (.int (O.idxOf n : Nat)), none]) (S := S ++ [.lst (((pas O N).take l.length).map fun (k : Nat) => .int k)]) (S1 := S ++ [.lst (((pas O N).take l.length).map fun (k : Nat) => .int k)]) (f := seqOf y) (all := (N.drop (l.length + 1)).map .str)
        (any_ok (sl_lo (var_ok rfl) (bin_ok (var_ok rfl) lit_ok rfl) hsl2) hns (hsy _)) (hsy _) (fun x => match x with | .str z => decide (O.idxOf z < O.idxOf n) | _ => false) (fun x => x) (fun x hx => by
          obtain ⟨z, hz, rfl⟩ := List.mem_map.mp hx
          have hzO := hs z (List.mem_of_mem_drop hz)
          refine ⟨_, rfl, ?_, fun _ => ⟨rfl, rfl⟩⟩
          simp [index_tup _ hzO]) (by simp; omega)
      have hlen := filt_len (fun z => decide (O.idxOf z < O.idxOf n)) (N.drop (l.length + 1))
      have happ : ∀ k : Int, mAppend (.ref .lst S.length) [.int k] (S ++ [.lst (((pas O N).take l.length).map fun (k : Nat) => .int k)]) = some (.non, S ++ [.lst ((((pas O N).take l.length).map fun (k : Nat) => .int k) ++ [.int k])]) := fun k => by
        simp only [mAppend, onCell, List.getElem?_concat_length]
        rw [if_pos (by simp; omega)]
        simp
      generalize ((N.drop (l.length + 1)).map PV.str).filter (fun x => match x with | .str z => decide (O.idxOf z < O.idxOf n) | _ => false) = fl at hlc hlen
      have etk : (pas O N).take (l.length + 1) = (pas O N).take l.length ++ [(N.drop (l.length + 1)).countP fun x => decide (O.idxOf x < O.idxOf n)] := by
        rw [List.take_add_one, hps]; rfl
      rw [List.map_id'] at hlen
      simp [index_tup _ hnO, hlc, happ, etk, hlen, -List.map_take, -List.map_drop])
  have hlE : (enumL (N.map PV.str)).length = (pas O N).length := by simp [enumL, pas_length]
  rw [hlE, List.take_length] at h2
  subst h1 h2
  unfold F__law_passed mkFn d__law_passed
  have g := gc_new (S := S) (E := [.lst ((pas O N).map fun (k : Nat) => .int k)]) (i := S.length) (xs := (pas O N).map fun (k : Nat) => .int k) (Nat.le_refl _) (by simp) (by simp)
  simp [e, g]
theorem ev_law_passed {N O : List Str} (hN : N.length ≤ 1000) (hs : ∀ n ∈ N, n ∈ O) (S : Store) : F__law_passed [.tup (N.map .str), .tup (O.map .str)] S = .ok (.tmp ((pas O N).map fun (k : Nat) => .int k)) S :=
  ev_law_passedG (fun _ => rfl) (fun E k => ⟨.tup ((N.drop k).map .str), by simp only [slP, cutP_drop, List.map_drop], fun z => by simp, fun _ => rfl⟩) hN hs
theorem ev_law_passedR {R : Nat} {N O : List Str} {S : Store} (hR : S[R]? = some (.lst (N.map .str))) (hN : N.length ≤ 1000) (hs : ∀ n ∈ N, n ∈ O) : F__law_passed [.ref .lst R, .tup (O.map .str)] S = .ok (.tmp ((pas O N).map fun (k : Nat) => .int k)) S := by
  have h : ∀ E, (S ++ E)[R]? = some (.lst (N.map .str)) := fun E => by rw [List.getElem?_append_left (List.getElem?_eq_some_iff.mp hR).1]; exact hR
  exact ev_law_passedG (fun E => by simp [h]) (fun E k => ⟨.tmp ((N.drop k).map .str), by simp only [slP, lstOf_ref, h, Option.map_some, cutP_drop, List.map_drop], fun z => by simp, fun _ => rfl⟩) hN hs
theorem row_names {vs : List Nat} {i k : Nat} {ρ : LEnv} {L : List (Str × Int)} {S : Store} (h0 : (wipeP ρ [k])[i]? = some (some (lineP L))) (hd : ρ[i]? = some (some (lineP L))) (hk : k < ρ.length) (hl : L.length ≤ 1000) :
    dLc (iAny (dVar i)) (gSet k) dYes (dBin oIx (dVar k) (dLit (.int 0))) [k] ρ S = .ok (.tmp ((L.map (·.1)).map .str)) S := by
  have h := dLc_map (d := iAny (dVar i)) (g := gSet k) (el := dBin oIx (dVar k) (dLit (.int 0))) (vs := [k]) (ρ := ρ) (S := S) (S1 := S) (f := seqOf (lineP L)) (all := L.map rowP) (by simp [iAny, hd, lineP]) rfl rowN (fun r hm => by
    obtain ⟨p, hp, rfl⟩ := List.mem_map.mp hm
    refine ⟨_, rfl, ?_, rfl⟩
    have : ((wipeP ρ [k]).set k (some (rowP p)))[k]? = some (some (rowP p)) := List.getElem?_set_self (by simpa using hk)
    simp only [dBin_eq, dVar_eq, this, Res.bind_ok, dLit_eq, row_ix0, ofO_some]
    rfl) (by simp; omega)
  rw [h, names_rows]
end My

set_option Elab.async false
set_option linter.all false
set_option maxRecDepth 100000
set_option maxHeartbeats 4000000
namespace My
open PySem Z
/-! ### the law's own reckoning -/
/-! ### alike -/
def plainV : PV → Bool
  | .non => true | .bl _ => true | .int _ => true | .str _ => true
  | _ => false
theorem same_leaf (f : Nat) {x : PV} (h : plainV x = true) (S : Store) : R__law_same (f + 1) [x, x] S = .ok (.bl true) S := by
  have hs : ∃ k : Int, F__law_sort [x] S = .ok (.int k) S ∧ (¬ 3 < k ∨ ¬ k < 6) := by
    cases x with
    | non => exact ⟨6, by unfold F__law_sort mkFn d__law_sort; simp [isTs], .inr (by omega)⟩
    | bl b => exact ⟨1, by unfold F__law_sort mkFn d__law_sort; simp [isTs], .inl (by omega)⟩
    | int i => exact ⟨2, by unfold F__law_sort mkFn d__law_sort; simp [isTs], .inl (by omega)⟩
    | str s => exact ⟨3, by unfold F__law_sort mkFn d__law_sort; simp [isTs], .inl (by omega)⟩
    | _ => cases h
  have he : oEq x x S = some (.bl true) := by
    cases x with
    | non => rfl
    | bl b => simp
    | int i => simp
    | str s => simp
    | _ => cases h
  have hb : bnd x S = .ok x S := by cases x <;> first | rfl | cases h
  have hg : gc S (.bl true) S = .ok (.bl true) S := gc_bl
  obtain ⟨k, hk, hk2⟩ := hs
  unfold R__law_same mkFn d__law_same
  rcases hk2 with hk2 | hk2
  · simp [hk, hb, he, hk2]
  · by_cases h3 : 3 < k
    · simp [hk, hb, he, hk2, h3]
    · simp [hk, hb, he, h3]
end My

set_option Elab.async false
set_option linter.all false
set_option maxRecDepth 100000
set_option maxHeartbeats 4000000
namespace My
open PySem Z
theorem enum_map {α : Type} (F : α → PV) (l : List α) : enumL (l.map F) = l.zipIdx.map fun p => PV.tup [.int (p.2 : Nat), F p.1] := by
  unfold enumL
  rw [List.mapIdx_eq_zipIdx_map, List.zipIdx_map, List.map_map]
  apply List.map_congr_left
  intro p _
  rfl
theorem over_filter : ∀ (L : List (Str × Int)) (ms : List Nat) (k0 : Nat), ms.length = L.length → (fits ms L = ((L.zipIdx k0).filter fun p => decide (p.1.2 < (((List.replicate k0 0 ++ ms).getD p.2 0 : Nat) : Int))).isEmpty)
  | [], ms, k0, h => by cases ms <;> simp_all [fits]
  | p :: L, [], k0, h => by simp at h
  | p :: L, m :: ms, k0, h => by
    have ih := over_filter L ms (k0 + 1) (by simpa using h)
    have e : ∀ j, (List.replicate (k0 + 1) 0 ++ ms).getD j 0 = (List.replicate k0 0 ++ 0 :: ms).getD j 0 := fun j => by rw [List.replicate_succ']; simp
    simp only [List.zipIdx_cons, List.filter_cons]
    have h0 : (List.replicate k0 0 ++ m :: ms).getD k0 0 = m := by simp [List.getD]
    rw [h0]
    have hrest : ((L.zipIdx (k0 + 1)).filter fun p => decide (p.1.2 < (((List.replicate k0 0 ++ m :: ms).getD p.2 0 : Nat) : Int))) = (L.zipIdx (k0 + 1)).filter fun p => decide (p.1.2 < (((List.replicate (k0 + 1) 0 ++ ms).getD p.2 0 : Nat) : Int)) := by
      apply List.filter_congr
      intro q hq
      obtain ⟨q1, q2⟩ := List.mem_zipIdx hq
      have : (List.replicate k0 0 ++ m :: ms).getD q.2 0 = (List.replicate (k0 + 1) 0 ++ ms).getD q.2 0 := by
        rw [e]
        simp only [List.getD_eq_getElem?_getD]
        rw [List.getElem?_append_right (by simp; omega), List.getElem?_append_right (by simp; omega)]
        obtain ⟨j, hj⟩ : ∃ j, q.2 - (List.replicate k0 0).length = j + 1 := ⟨q.2 - k0 - 1, by simp; omega⟩
        rw [hj]; simp
      rw [this]
    rw [hrest]
    by_cases hm : p.2 < (m : Int)
    · have : ¬ ((m : Int) ≤ p.2) := by omega
      simp [fits, hm, this]
    · have : (m : Int) ≤ p.2 := by omega
      simp only [fits, this, decide_true, Bool.true_and, ih, hm, decide_false]
      simp
theorem ev_law_comes {L : List (Str × Int)} {O : List Str} (hl : L.length ≤ 1000) (hO : ∀ n ∈ L.map (·.1), n ∈ O) (S : Store) : F__law_comes [lineP L, .tup (O.map .str)] S = .ok (.bl (fits (pas O (L.map (·.1))) L)) S := by
  let S1 := S ++ [.lst ((L.map (·.1)).map PV.str)]
  let ms := pas O (L.map (·.1))
  let S2 := S1 ++ [.lst (ms.map fun (k : Nat) => PV.int k)]
  have l1 : S1.length = S.length + 1 := by simp [S1]
  have hml : ms.length = L.length := by simp [ms, pas_length]
  have n1 := row_names (vs := []) (i := 0) (k := 3) (ρ := [some (lineP L), some (.tup (O.map .str)), none, none, none]) (L := L) (S := S) rfl rfl (by simp) hl
  have p1 := ev_law_passedR (R := S.length) (S := S1) (N := L.map (·.1)) (O := O) (by simp [S1]) (by simpa using hl) hO
  have s1 : dSet 2 (dCall 2 F__law_passed (dCons (dLc (iAny (dVar 0)) (gSet 3) dYes (dBin oIx (dVar 3) (dLit (.int 0))) [3]) (dCons (dVar 1) dNil))) [some (lineP L), some (.tup (O.map .str)), none, none, none] S =
      .ok (.nx [some (lineP L), some (.tup (O.map .str)), some (.ref .lst S1.length), none, none]) S2 :=
    set_ok (call_ok (cons_ok n1 rfl (cons_ok (var_ok rfl) rfl nil_ok)) rfl p1) rfl
  have hmg : ∀ (k : Nat) (m : Nat), ms[k]? = some m → oIx (.ref .lst S1.length) (.int (k : Nat)) S2 = some (.int m) := fun k m h => by
    refine oIx_ref (k := k) (xs := ms.map fun (k : Nat) => PV.int k) (by simp [S2]) ?_
    rw [List.getElem?_map, h]; rfl
  have hlc : dLc (iEnu (dConsX (dVar 0) dNil)) (gTupZ (gAnd (gSet 4) (gAnd (gSet 3) gNon))) (dTst (dBin oGt (dBin oIx (dVar 2) (dVar 4)) (dBin oIx (dVar 3) (dLit (.int 1))))) (dVar 4) [4, 3] [some (lineP L), some (.tup (O.map .str)), some (.ref .lst S1.length), none, none] S2 =
      .ok (.tmp ((L.zipIdx.filter fun p => decide (p.1.2 < ((ms.getD p.2 0 : Nat) : Int))).map fun p => natP p.2)) S2 := by
    refine lcM (f := fun S => (seqOf (lineP L) S).map enumL) (xs := L.zipIdx) (F := fun p => PV.tup [.int (p.2 : Nat), rowP p.1]) (p := fun p => decide (p.1.2 < ((ms.getD p.2 0 : Nat) : Int))) rfl (by simp only [lineP, seqOf_tup, Option.map_some]; rw [enum_map]) (fun p => natP p.2) (fun a ha => ⟨[some (lineP L), some (.tup (O.map .str)), some (.ref .lst S1.length), some (rowP a.1), some (natP a.2)], rfl, ?_, fun _ => ⟨rfl, rfl⟩⟩) (by simp; omega)
    obtain ⟨q1, q2⟩ := List.mem_zipIdx ha
    have hk : a.2 < ms.length := by omega
    have hg : ms[a.2]? = some (ms.getD a.2 0) := by rw [List.getD_eq_getElem?_getD, List.getElem?_eq_getElem hk]; rfl
    exact tst_ok (bin_ok (bin_ok (var_ok rfl) (var_ok rfl) (hmg _ _ hg)) (bin_ok (var_ok rfl) lit_ok (row_ix1 _ _)) rfl)
  have hf := over_filter L ms 0 hml
  simp only [List.replicate_zero, List.nil_append] at hf
  have hret : dBin oEq (dLc (iEnu (dConsX (dVar 0) dNil)) (gTupZ (gAnd (gSet 4) (gAnd (gSet 3) gNon))) (dTst (dBin oGt (dBin oIx (dVar 2) (dVar 4)) (dBin oIx (dVar 3) (dLit (.int 1))))) (dVar 4) [4, 3]) (dLst dNil) [some (lineP L), some (.tup (O.map .str)), some (.ref .lst S1.length), none, none] S2 =
      .ok (.bl (fits ms L)) S2 := by
    refine bin_ok hlc (lst_ok nil_ok (by simp)) ?_
    rw [hf]
    generalize L.zipIdx.filter (fun p => decide (p.1.2 < ((ms.getD p.2 0 : Nat) : Int))) = xs
    obtain ⟨ds, hds⟩ : ∃ ds, dats S2 (xs.map fun p => natP p.2) = some ds := datsB_all fun y hy => by
      obtain ⟨p, _, rfl⟩ := List.mem_map.mp hy
      exact ⟨_, rfl⟩
    simp only [oEq]
    rw [eqD_nil_tmp hds]
    simp
  refine fn_rt (seq_nx s1 (ret_ok hret)) ?_
  have e2 : S2 = S ++ [.lst ((L.map (·.1)).map PV.str), .lst (ms.map fun (k : Nat) => PV.int k)] := by simp [S2, S1]
  rw [e2]
  exact gc_app rfl
end My

set_option Elab.async false
set_option linter.all false
set_option maxRecDepth 100000
set_option maxHeartbeats 4000000
namespace My
open PySem Z
theorem ev_deck (cell t : Int) (S : Store) : ∃ a b : Int, F__law_deck [.int cell, .int t] S = .ok (.tmp [.int a, .int b, .int t]) S ∧ 0 ≤ a ∧ 0 ≤ b ∧ b < 2147483648 := by
  have g : ∀ a b : Int, gc S (.tmp [.int a, .int b, .int t]) S = .ok (.tmp [.int a, .int b, .int t]) S := fun a b => gc_same (by simp)
  have hb := Int.emod_nonneg cell (by decide : (2147483579 : Int) ≠ 0)
  have hb2 := Int.emod_lt_of_pos cell (by decide : (0 : Int) < 2147483579)
  by_cases h : 1000000000000000000 ≤ cell
  · refine ⟨cell - 1000000000000000000, cell % 2147483579, ?_, by omega, hb, by omega⟩
    unfold F__law_deck mkFn d__law_deck
    simp [oPow, h, oMod, g]
  · refine ⟨0, cell % 2147483579, ?_, by omega, hb, by omega⟩
    unfold F__law_deck mkFn d__law_deck
    simp [oPow, h, oMod, g]
theorem St.ofApp {S : Store} (hcl : ∀ (i : Nat) c, S[i]? = some c → cC S.length c = true) {a b t : Int} (ha : 0 ≤ a) (hb : 0 ≤ b) (hb2 : b < 2147483648) (ht : 0 ≤ t) : St S.length t (S ++ [.lst [.int a, .int b, .int t]]) where
  cl := fun i c hc => by
    by_cases hi : i < S.length
    · rw [List.getElem?_append_left hi] at hc
      exact cC_mono (by simp) (hcl i c hc)
    · rw [List.getElem?_append_right (by omega)] at hc
      have := List.mem_of_getElem? hc
      simp only [List.mem_singleton] at this
      subst this; rfl
  dk := ⟨a, b, t, by simp, ha, hb, hb2, by omega, by omega⟩
theorem gc_bool (b : Bool) (S' : Store) : ∃ S'', gc [] (.bl b) S' = .ok (.bl b) S'' := by
  unfold gc
  rw [outV_closed (show cV _ (.bl b) = true from rfl)]
  split
  · exact ⟨_, rfl⟩
  · exact ⟨_, rfl⟩
theorem app_lst {d : Nat} {m : Int} {S : Store} (h : St d m S) {xs : List PV} (hx : ∀ y ∈ xs, cV S.length y = true) : St d m (S ++ [.lst xs]) := by
  refine h.app fun c hc => ?_
  simp only [List.mem_singleton] at hc
  subst hc
  simp only [cC, cVs_all, List.all_eq_true]
  exact fun y hy => cV_mono (by simp) (hx y hy)
theorem line_th {d c : Nat} {S : Store} {L : List (Str × Int)} (hL : Line L) : Th (· = d) 2 c S (lineP L) := by
  refine Th.seq (fun y hy => ?_) (by have := hL.2.1; simp; omega)
  obtain ⟨p, hp, rfl⟩ := List.mem_map.mp hy
  have hp' := hL.2.2.1 p hp
  refine Th.seq (fun y hy => ?_) (by simp; omega)
  simp only [List.mem_cons, List.not_mem_nil, or_false] at hy
  rcases hy with rfl | rfl
  · have := name_len hp'.1
    exact Th.leaf (by show p.1.length ≤ 16777216; omega)
  · refine Th.leaf ?_
    show p.2.natAbs ≤ 10 ^ 30 + c
    have : (99 : Nat) ≤ 10 ^ 30 := by decide +kernel
    omega
theorem strs_th {d c : Nat} {S : Store} {ss : List Str} (hl : ss.length ≤ 1000) (h : ∀ s ∈ ss, nameM (.str s) = true) : Th (· = d) 2 c S (.tup (ss.map .str)) := by
  refine Th.seq (fun y hy => ?_) (by simp; omega)
  obtain ⟨s, hs, rfl⟩ := List.mem_map.mp hy
  have := name_len (h s hs)
  exact Th.leaf (by show s.length ≤ 16777216; omega)
end My

set_option Elab.async false
set_option linter.all false
set_option maxRecDepth 100000
set_option maxHeartbeats 8000000
namespace My
open PySem Z
theorem posC_zero : ∀ (n i : Nat), i < n → posC i (List.replicate n 0) = i
  | n + 1, 0, _ => rfl
  | n + 1, i + 1, h => by
    rw [List.replicate_succ, posC, posC_zero n i (by omega), if_pos (by omega)]
theorem ahead_pos {cs : List Nat} {i j : Nat} (hij : i < j) (hj : j < cs.length) : 0 < cntAhead cs i j := by
  unfold cntAhead
  rw [List.countP_pos_iff]
  exact ⟨_, zero_codes cs, by simp only [decide_eq_true_eq]; rw [posC_zero _ _ (by omega), posC_zero _ _ hj]; exact hij⟩
theorem index_ref {S : Store} {R : Nat} {ss : List Str} (hR : S[R]? = some (.lst (ss.map .str))) {s : Str} (h : s ∈ ss) : mIndex (.ref .lst R) [.str s] S = some (.int (ss.idxOf s : Nat), S) := by
  have := place_str S h
  simp [mIndex, hR, this]
theorem neI {S : Store} (a b : Int) : oNe (.int a) (.int b) S = some (.bl (!decide (a = b))) := by simp
theorem eqI {S : Store} (a b : Int) : oEq (.int a) (.int b) S = some (.bl (decide (a = b))) := by simp
theorem others_ne {N : List Str} {n : Str} (hN : N.Nodup) (h1 : 1 < N.length) : N.filter (fun z => !decide (z = n)) ≠ [] := fun h => by
  rw [List.filter_eq_nil_iff] at h
  have := nodup_len hN (D := [n]) fun x hx => by
    have := h x hx
    simp at this
    simp [this]
  simp at this
  omega
noncomputable abbrev pr1 : DS := (dSet 5 (dCall 2 F__law_one (dCons (dVar 0) (dCons (dVar 2) dNil))))
noncomputable abbrev pr2 : DS := (dSet 6 (dCall 2 F__law_one (dCons (dVar 0) (dCons (dLc (iAny (dVar 2)) (gSet 7) (dTst (dBin oNe (dVar 7) (dVar 5))) (dVar 7) [7]) dNil))))
noncomputable abbrev pr3 : DS := (dIfS (dTst (dBin oNe (dBin oAdd (dCall 3 F_ahead_in (dCons (dVar 1) (dCons (dVar 5) (dCons (dVar 6) dNil)))) (dCall 3 F_ahead_in (dCons (dVar 1) (dCons (dVar 6) (dCons (dVar 5) dNil))))) (dVar 3))) (dRet (dLit (.bl false))) dSkip)
noncomputable abbrev pr4 : DS := (dIfS (dAndT (dTst (dBin oLt (dMeth2 mIndex (dVar 2) (dCons (dVar 5) dNil)) (dMeth2 mIndex (dVar 2) (dCons (dVar 6) dNil)))) (dTst (dBin oEq (dCall 3 F_ahead_in (dCons (dVar 1) (dCons (dVar 5) (dCons (dVar 6) dNil)))) (dLit (.int 0))))) (dRet (dLit (.bl false))) dSkip)
section
variable {d R : Nat} {m : Int} {L : List (Str × Int)} {S : Store}
/-- two drawn -/
theorem pr_turn (hL : Line L) (h1 : 1 < L.length) (h : St d m S) (hm : m + 100 < 1073741824) (hRd : R ≠ d) (hR : S[R]? = some (.lst ((L.map (·.1)).map .str))) (x4 x5 x6 : Option PV) :
    ∃ (y5 y6 : Option PV) (S' : Store), dSeq pr1 (dSeq pr2 (dSeq pr3 pr4)) [some (.ref .lst d), some (lineP L), some (.ref .lst R), some (natP (prodN (capsL L))), x4, x5, x6, none, none, none] S =
      .ok (.nx [some (.ref .lst d), some (lineP L), some (.ref .lst R), some (natP (prodN (capsL L))), x4, y5, y6, none, none, none]) S' ∧ St d (m + 2) S' ∧ Ev d S S' := by
  have hN := hL.2.2.2
  have h30 := hL.2.1
  have hcl := capsL_len L
  have hok := capsL_ok L
  have hNl : (L.map (·.1)).length = L.length := by simp
  generalize hNN : L.map (fun p => p.1) = N at hN hR hNl
  obtain ⟨y, S1, e1, hy, ev1, len1, st1⟩ := ev_one (av := (· = d)) h (by omega) rfl (xs := N.map .str) (s := .ref .lst R) (.inr ⟨R, hRd, rfl, hR⟩) (by simp; intro q; rw [q] at hNl; simp at hNl; omega) (by simp; omega) (fun y hy => by obtain ⟨s, _, rfl⟩ := List.mem_map.mp hy; rfl)
  obtain ⟨n, hn, rfl⟩ := List.mem_map.mp hy
  have hR1 := ev1.1 _ _ hRd hR
  have st2 := app_lst st1 (xs := (N.filter fun z => !decide (z = n)).map .str) (fun y hy => by obtain ⟨s, _, rfl⟩ := List.mem_map.mp hy; rfl)
  have hd1 := st1.lt
  obtain ⟨z, S3, e3, hz, ev3, len3, st3⟩ := ev_one (av := (· = d)) st2 (by omega) rfl (xs := (N.filter fun z => !decide (z = n)).map .str) (s := .ref .lst S1.length) (.inr ⟨S1.length, by omega, rfl, by simp⟩)
    (by have := others_ne (n := n) hN (by omega); simp only [ne_eq, List.map_eq_nil_iff]; exact this) (by have := List.length_filter_le (fun z => !decide (z = n)) N; simp only [List.length_map]; omega) (fun y hy => by obtain ⟨s, _, rfl⟩ := List.mem_map.mp hy; rfl)
  obtain ⟨o, ho, rfl⟩ := List.mem_map.mp hz
  obtain ⟨ho1, ho2⟩ := List.mem_filter.mp ho
  have hno : o ≠ n := by simpa using ho2
  have ev02 : Ev d S S3 := (ev1.trans Ev.app).trans ev3
  have hR3 := ev02.1 _ _ hRd hR
  obtain ⟨i, hi⟩ := List.mem_iff_getElem?.mp hn
  obtain ⟨j, hj⟩ := List.mem_iff_getElem?.mp ho1
  have hij : i ≠ j := fun e => hno (by rw [e, hj] at hi; exact Option.some.inj hi)
  have hi2 := (List.getElem?_eq_some_iff.mp hi).1
  have hj2 := (List.getElem?_eq_some_iff.mp hj).1
  have b1 := ev_ahead hL (i := i) (j := j) (n := n) (m := o) (by rw [hNN]; exact hi) (by rw [hNN]; exact hj) hij S3
  have b2 := ev_ahead hL (i := j) (j := i) (n := o) (m := n) (by rw [hNN]; exact hj) (by rw [hNN]; exact hi) (Ne.symm hij) S3
  have both := ahead_both hok (i := i) (j := j) (by omega) (by omega) hij
  have x1 := index_ref hR3 hn
  have x2 := index_ref hR3 ho1
  rw [idx_at hN hi] at x1
  rw [idx_at hN hj] at x2
  have t1 : pr1 [some (.ref .lst d), some (lineP L), some (.ref .lst R), some (natP (prodN (capsL L))), x4, x5, x6, none, none, none] S = .ok (.nx [some (.ref .lst d), some (lineP L), some (.ref .lst R), some (natP (prodN (capsL L))), x4, some (.str n), x6, none, none, none]) S1 :=
    set_ok (call_ok (cons_ok (var_ok rfl) rfl (cons_ok (var_ok rfl) rfl nil_ok)) rfl e1) rfl
  have hlc : dLc (iAny (dVar 2)) (gSet 7) (dTst (dBin oNe (dVar 7) (dVar 5))) (dVar 7) [7] [some (.ref .lst d), some (lineP L), some (.ref .lst R), some (natP (prodN (capsL L))), x4, some (.str n), x6, none, none, none] S1 =
      .ok (.tmp ((N.filter fun z => !decide (z = n)).map .str)) S1 :=
    lcM (f := seqOf (.ref .lst R)) (xs := N) (F := PV.str) (any_ok (S1 := S1) (xs := N.map .str) (var_ok rfl) (fun z => by simp) (by simp [hR1])) (by simp [hR1]) (fun z => !decide (z = n)) PV.str (fun z hz => ⟨_, rfl, tst_ok (bin_ok (var_ok rfl) (var_ok rfl) (by rw [oNe_str])), fun _ => ⟨rfl, rfl⟩⟩) (by omega)
  have t2 : pr2 [some (.ref .lst d), some (lineP L), some (.ref .lst R), some (natP (prodN (capsL L))), x4, some (.str n), x6, none, none, none] S1 = .ok (.nx [some (.ref .lst d), some (lineP L), some (.ref .lst R), some (natP (prodN (capsL L))), x4, some (.str n), some (.str o), none, none, none]) S3 :=
    set_ok (call_ok (cons_ok (var_ok rfl) rfl (cons_ok hlc rfl nil_ok)) rfl e3) rfl
  have t3 : pr3 [some (.ref .lst d), some (lineP L), some (.ref .lst R), some (natP (prodN (capsL L))), x4, some (.str n), some (.str o), none, none, none] S3 = .ok (.nx [some (.ref .lst d), some (lineP L), some (.ref .lst R), some (natP (prodN (capsL L))), x4, some (.str n), some (.str o), none, none, none]) S3 := by
    refine ifs_f (tst_ok (bin_ok (x := natP (prodN (capsL L))) (bin_ok (call_ok (cons_ok (var_ok rfl) (bnd_line L S3) (cons_ok (var_ok rfl) rfl (cons_ok (var_ok rfl) rfl nil_ok))) rfl b1) (call_ok (cons_ok (var_ok rfl) (bnd_line L S3) (cons_ok (var_ok rfl) rfl (cons_ok (var_ok rfl) rfl nil_ok))) rfl b2) ?_) (var_ok rfl) ?_)) rfl
    · rw [← both]; simp [natP]
    · simp only [natP]; rw [neI]; simp
  have t4 : pr4 [some (.ref .lst d), some (lineP L), some (.ref .lst R), some (natP (prodN (capsL L))), x4, some (.str n), some (.str o), none, none, none] S3 = .ok (.nx [some (.ref .lst d), some (lineP L), some (.ref .lst R), some (natP (prodN (capsL L))), x4, some (.str n), some (.str o), none, none, none]) S3 := by
    have q : dBin oLt (dMeth2 mIndex (dVar 2) (dCons (dVar 5) dNil)) (dMeth2 mIndex (dVar 2) (dCons (dVar 6) dNil)) [some (.ref .lst d), some (lineP L), some (.ref .lst R), some (natP (prodN (capsL L))), x4, some (.str n), some (.str o), none, none, none] S3 = .ok (.bl (decide ((i : Int) < j))) S3 :=
      bin_ok (meth2_ok (var_ok rfl) (.inl rfl) (cons_ok (var_ok rfl) rfl nil_ok) x1) (meth2_ok (var_ok rfl) (.inl rfl) (cons_ok (var_ok rfl) rfl nil_ok) x2) rfl
    by_cases hlt : i < j
    · rw [decide_eq_true (by omega)] at q
      have hp := ahead_pos (cs := capsL L) hlt (by omega)
      refine ifs_f (and_t (tst_ok q) (tst_ok (bin_ok (call_ok (cons_ok (var_ok rfl) (bnd_line L S3) (cons_ok (var_ok rfl) rfl (cons_ok (var_ok rfl) rfl nil_ok))) rfl b1) lit_ok ?_))) rfl
      simp only [natP]; rw [eqI, decide_eq_false (by omega)]
    · rw [decide_eq_false (by omega)] at q
      exact ifs_f (and_f (tst_ok q)) rfl
  exact ⟨_, _, S3, seq_nx t1 (seq_nx t2 (seq_nx t3 t4)), st3.mono (by omega), ev02⟩

theorem sum_filter_zero {n j : Nat} (f : Nat → Nat) (h : f j = 0) : (((List.range n).filter fun i => !decide (i = j)).map f).sum = ((List.range n).map f).sum := by
  generalize List.range n = l
  induction l with
  | nil => rfl
  | cons a l ih =>
    by_cases e : a = j
    · subst e; simp [h, ih]
    · simp [e, ih]
theorem names_range (N : List Str) (z : Str) : N.map PV.str = (List.range N.length).map fun i => PV.str (N.getD i z) := by
  apply List.ext_getElem?
  intro i
  rw [List.getElem?_map, List.getElem?_map]
  by_cases h : i < N.length
  · rw [List.getElem?_range h, List.getElem?_eq_getElem h]; simp [List.getD, h]
  · rw [List.getElem?_eq_none (by omega), List.getElem?_eq_none (by simp; omega)]; rfl
/-- the mean, told in two ways -/
theorem pr_mean (hL : Line L) (hR : S[R]? = some (.lst ((L.map (·.1)).map .str))) {j : Nat} {n : Str} (hj : (L.map (·.1))[j]? = some n) (x4 x5 x6 x8 x9 : Option PV) :
    dSet 8 (dFn fSum (dConsX (dLc (iEnu (dConsX (dCall 2 F_at_places (dCons (dVar 1) (dCons (dVar 7) dNil))) dNil)) (gTupZ (gAnd (gSet 9) (gAnd (gSet 5) gNon))) dYes (dBin oMulG (dVar 9) (dVar 5)) [9, 5]) dNil)) [some (.ref .lst d), some (lineP L), some (.ref .lst R), some (natP (prodN (capsL L))), x4, x5, x6, some (.str n), none, none] S =
      .ok (.nx [some (.ref .lst d), some (lineP L), some (.ref .lst R), some (natP (prodN (capsL L))), x4, x5, x6, some (.str n), some (natP ((codes (capsL L)).map fun ks => posC j ks).sum), none]) S ∧
    dRet (dBin oEq (dVar 8) (dFn fSum (dConsX (dLc (iAny (dVar 2)) (gSet 6) (dTst (dBin oNe (dVar 6) (dVar 7))) (dCall 3 F_ahead_in (dCons (dVar 1) (dCons (dVar 6) (dCons (dVar 7) dNil)))) [6]) dNil))) [some (.ref .lst d), some (lineP L), some (.ref .lst R), some (natP (prodN (capsL L))), x4, x5, x6, some (.str n), some (natP ((codes (capsL L)).map fun ks => posC j ks).sum), none] S =
      .ok (.rt (.bl true)) S := by
  have hN := hL.2.2.2
  have h30 := hL.2.1
  have hcl := capsL_len L
  have hok := capsL_ok L
  have hl := hL.len
  have hj2 := names_get hj
  have hle := caps_le hl
  constructor
  · have e1 := ev_at_places hL hj S
    have hsc := sum_cnt hok (i := j) (by omega) (fun p => p)
    rw [hcl] at hsc
    rw [← hsc]
    have hb : ∀ p, cntAt (capsL L) j p < 2 ^ 10001 := fun p => by
      have h1 : cntAt (capsL L) j p ≤ prodN (capsL L) := by
        unfold cntAt
        rw [← codes_len]
        exact List.countP_le_length
      exact Nat.lt_of_le_of_lt h1 (Nat.lt_of_lt_of_le (prod_lt _ hle) (Nat.pow_le_pow_right (by omega) (by omega)))
    have hlc : dLc (iEnu (dConsX (dCall 2 F_at_places (dCons (dVar 1) (dCons (dVar 7) dNil))) dNil)) (gTupZ (gAnd (gSet 9) (gAnd (gSet 5) gNon))) dYes (dBin oMulG (dVar 9) (dVar 5)) [9, 5] [some (.ref .lst d), some (lineP L), some (.ref .lst R), some (natP (prodN (capsL L))), x4, x5, x6, some (.str n), none, none] S =
        .ok (.tmp ((List.range L.length).map fun p => natP (cntAt (capsL L) j p * p))) S := by
      refine lcM_all (f := fun S => (seqOf (.tmp ((List.range L.length).map fun p => natP (cntAt (capsL L) j p))) S).map enumL) (xs := List.range L.length) (F := fun p => PV.tup [natP p, natP (cntAt (capsL L) j p)]) ?_ ?_ _ (fun p hp => ⟨_, rfl, ?_, rfl⟩) (by simp; omega)
      · have : dCall 2 F_at_places (dCons (dVar 1) (dCons (dVar 7) dNil)) [some (.ref .lst d), some (lineP L), some (.ref .lst R), some (natP (prodN (capsL L))), x4, x5, x6, some (.str n), none, none] S = .ok (.tmp ((List.range L.length).map fun p => natP (cntAt (capsL L) j p))) S :=
          call_ok (cons_ok (var_ok rfl) (bnd_line L S) (cons_ok (var_ok rfl) rfl nil_ok)) rfl e1
        unfold iEnu
        rw [dConsX_eq, this]
        simp only [Res.bind_ok, dNil_eq, seqOf_tmp]
      · simp only [seqOf_tmp, Option.map_some]
        rw [enum_map, List.zipIdx_eq_zip_range']
        congr 1
        apply List.ext_getElem?
        intro i
        simp only [List.length_range]
        by_cases h : i < L.length
        · simp [List.getElem?_map, List.getElem?_zip_eq_some, List.getElem?_range h, h, natP]
        · rw [List.getElem?_eq_none (by simp; omega), List.getElem?_eq_none (by simp; omega)]
      · have := mul_wide (hb p) (by omega) (by omega) (j := p) (by have := List.mem_range.mp hp; omega) S
        refine bin_ok (var_ok rfl) (var_ok rfl) ?_
        have hc : oMulG (natP p) (natP (cntAt (capsL L) j p)) S = oMulG (natP (cntAt (capsL L) j p)) (natP p) S := by
          rw [this, Nat.mul_comm]
          simp only [natP]
          rw [oMulG_int, Int.natCast_mul]
          have l1 := log2_small (hb p) (by omega)
          have l2 := log_small p (by have := List.mem_range.mp hp; omega)
          simp only [Int.natAbs_natCast]; omega
        rw [hc, this]
    exact set_ok (fn1_ok hlc (sum_natP _ _ S)) rfl
  · have hsa := sum_ahead hok (j := j) (by omega)
    rw [hcl] at hsa
    rw [← hsa]
    have hNN := names_range (L.map (·.1)) n
    have hlN : (L.map (·.1)).length = L.length := by simp
    rw [hlN] at hNN
    have hlc : dLc (iAny (dVar 2)) (gSet 6) (dTst (dBin oNe (dVar 6) (dVar 7))) (dCall 3 F_ahead_in (dCons (dVar 1) (dCons (dVar 6) (dCons (dVar 7) dNil)))) [6] [some (.ref .lst d), some (lineP L), some (.ref .lst R), some (natP (prodN (capsL L))), x4, x5, x6, some (.str n), some (natP ((List.range L.length).map fun i => cntAhead (capsL L) i j).sum), none] S =
        .ok (.tmp (((List.range L.length).filter fun i => !decide (i = j)).map fun i => natP (cntAhead (capsL L) i j))) S := by
      refine lcM (f := seqOf (.ref .lst R)) (xs := List.range L.length) (F := fun i => PV.str ((L.map (·.1)).getD i n)) (any_ok (S1 := S) (xs := (L.map (·.1)).map .str) (var_ok rfl) (fun z => by simp) (by simp only [seqOf_ref, hR])) (by simp only [seqOf_ref, hR]; rw [hNN]) (fun i => !decide (i = j)) _ (fun i hi => ?_) (by simp; omega)
      have hi2 := List.mem_range.mp hi
      have hg : (L.map (·.1))[i]? = some ((L.map (·.1)).getD i n) := by
        have : i < (L.map (·.1)).length := by omega
        rw [List.getD_eq_getElem?_getD, List.getElem?_eq_getElem this]; rfl
      generalize (L.map (·.1)).getD i n = o at hg
      have hne : (!decide (o = n)) = (!decide (i = j)) := by
        congr 1
        apply decide_eq_decide.mpr
        constructor
        · intro e; subst e
          rw [← idx_at hN hg, ← idx_at hN hj]
        · intro e; subst e
          rw [hg] at hj; exact Option.some.inj hj
      refine ⟨_, rfl, tst_ok (bin_ok (var_ok rfl) (var_ok rfl) (by rw [oNe_str, hne])), fun hk => ⟨?_, rfl⟩⟩
      have hij : i ≠ j := by simpa using hk
      exact call_ok (cons_ok (var_ok rfl) (bnd_line L S) (cons_ok (var_ok rfl) rfl (cons_ok (var_ok rfl) rfl nil_ok))) rfl (ev_ahead hL hg hj hij S)
    have hz := sum_filter_zero (n := L.length) (j := j) (fun i => cntAhead (capsL L) i j) (ahead_self _ _)
    refine ret_ok (bin_ok (var_ok rfl) (fn1_ok hlc (sum_natP _ _ S)) ?_)
    simp only [natP]
    rw [hz, eqI, decide_eq_true rfl]
theorem ev_pairs (hL : Line L) (h : St d m S) (hm : m + 1000 < 1073741824) (hRd : R ≠ d) (hR : S[R]? = some (.lst ((L.map (·.1)).map .str))) :
    ∃ S', F__law_pairs_right [.ref .lst d, lineP L, .ref .lst R, natP (prodN (capsL L))] S = .ok (.bl true) S' ∧ St d (m + 20) S' := by
  have h30 := hL.2.1
  have h1 := hL.1
  have hNl : (L.map (·.1)).length = L.length := by simp
  let T : Nat := if 1 < L.length then 6 else 0
  have hsrc : (iRan1 (dCons (dBin oMulG (dLit (.int 6)) (dFn fInt (dConsX (dBin oGt (dFn fLen (dConsX (dVar 2) dNil)) (dLit (.int 1))) dNil))) dNil)) [some (.ref .lst d), some (lineP L), some (.ref .lst R), some (natP (prodN (capsL L))), none, none, none, none, none, none] S = .ok (fun _ => some (rngL 0 T)) S := by
    have hlen := fLen_ref hR
    have a1 : dFn fInt (dConsX (dBin oGt (dFn fLen (dConsX (dVar 2) dNil)) (dLit (.int 1))) dNil) [some (.ref .lst d), some (lineP L), some (.ref .lst R), some (natP (prodN (capsL L))), none, none, none, none, none, none] S = .ok (.int (if 1 < L.length then 1 else 0)) S := by
      refine fn1_ok (x := .bl (decide (1 < L.length))) (bin_ok (fn1_ok (var_ok rfl) hlen) lit_ok ?_) ?_
      · have : decide (1 < ((List.map PV.str (L.map (·.1))).length : Int)) = decide (1 < L.length) := by
          apply decide_eq_decide.mpr
          simp only [List.length_map]; omega
        rw [← this]; rfl
      · simp [fInt]
    have a2 : dBin oMulG (dLit (.int 6)) (dFn fInt (dConsX (dBin oGt (dFn fLen (dConsX (dVar 2) dNil)) (dLit (.int 1))) dNil)) [some (.ref .lst d), some (lineP L), some (.ref .lst R), some (natP (prodN (capsL L))), none, none, none, none, none, none] S = .ok (.int (T : Nat)) S := by
      refine bin_ok lit_ok a1 ?_
      have : (6 : Int) * (if 1 < L.length then 1 else 0) = ((T : Nat) : Int) := by
        show _ = (((if 1 < L.length then 6 else 0 : Nat)) : Int)
        split <;> rfl
      rw [← this]
      exact mul_ok _ _ _ (by omega) (by omega)
    have hT : T ≤ 6 := by show (if 1 < L.length then 6 else 0) ≤ 6; split <;> omega
    have := ran1_ok (j := (T : Int)) (cons_ok a2 rfl nil_ok) (by omega) (by omega)
    rw [Int.toNat_natCast] at this
    exact this
  have hT : T ≤ 6 := by show (if 1 < L.length then 6 else 0) ≤ 6; split <;> omega
  obtain ⟨ρ', S1, e, ⟨x4, x5, x6, q1⟩, st1, ev1⟩ := forM (b := dSeq pr1 (dSeq pr2 (dSeq pr3 pr4))) (g := gSet 4) (xs := List.range T) (F := natP) hsrc (by simp [rngL, natP])
    (fun A ρ S' => (∃ x4 x5 x6, ρ = [some (.ref .lst d), some (lineP L), some (.ref .lst R), some (natP (prodN (capsL L))), x4, x5, x6, none, none, none]) ∧ St d (m + 2 * A.length) S' ∧ Ev d S S')
    (fun _ _ _ _ => by simp [rngL, natP]) ⟨⟨none, none, none, rfl⟩, h.mono (by simp), Ev.refl⟩ fun A a B ρ S' eq ⟨⟨x4, x5, x6, q1⟩, st, ev⟩ => by
      subst q1
      have hAl : A.length < T := by
        have := congrArg List.length eq
        simp at this; omega
      have h1L : 1 < L.length := by
        have : T = if 1 < L.length then 6 else 0 := rfl
        by_cases q : 1 < L.length
        · exact q
        · rw [if_neg q] at this; omega
      obtain ⟨y5, y6, S2, e2, st2, ev2⟩ := pr_turn hL h1L st (by omega) hRd (ev.1 _ _ hRd hR) (some (natP a)) x5 x6
      exact ⟨_, _, S2, rfl, .inl e2, ⟨_, _, _, rfl⟩, st2.mono (by simp; omega), ev.trans ev2⟩
  subst q1
  have hR1 := ev1.1 _ _ hRd hR
  obtain ⟨y, S2, e2, hy, ev2, len2, st2⟩ := ev_one (av := (· = d)) st1 (by simp; omega) rfl (xs := (L.map (·.1)).map .str) (s := .ref .lst R) (.inr ⟨R, hRd, rfl, hR1⟩) (by intro q; rw [List.map_eq_nil_iff] at q; rw [q] at hNl; simp at hNl; omega) (by rw [List.length_map]; omega) (fun y hy => by obtain ⟨s, _, rfl⟩ := List.mem_map.mp hy; rfl)
  obtain ⟨n, hn, rfl⟩ := List.mem_map.mp hy
  obtain ⟨j, hj⟩ := List.mem_iff_getElem?.mp hn
  have hR2 := ev2.1 _ _ hRd hR1
  have s2 : dSet 7 (dCall 2 F__law_one (dCons (dVar 0) (dCons (dVar 2) dNil))) [some (.ref .lst d), some (lineP L), some (.ref .lst R), some (natP (prodN (capsL L))), x4, x5, x6, none, none, none] S1 = .ok (.nx [some (.ref .lst d), some (lineP L), some (.ref .lst R), some (natP (prodN (capsL L))), x4, x5, x6, some (.str n), none, none]) S2 :=
    set_ok (call_ok (cons_ok (var_ok rfl) rfl (cons_ok (var_ok rfl) rfl nil_ok)) rfl e2) rfl
  obtain ⟨s3, s4⟩ := pr_mean (d := d) hL hR2 hj x4 x5 x6 none none
  obtain ⟨S', g, stg, _, _⟩ := gc_gnd (x := .bl true) h st2 (ev1.trans ev2).2 (fun _ => rfl)
  exact ⟨S', fn_rt (seq_nx e (seq_nx s2 (seq_nx s3 s4))) g, stg.mono (by simp; omega)⟩
end
end My

set_option Elab.async false
set_option linter.all false
set_option maxRecDepth 100000
set_option maxHeartbeats 8000000
namespace My
open PySem Z
noncomputable abbrev s1_1 : DS := (dSet 2 (dCall 2 F__law_deck (dCons (dVar 1) (dCons (dLit (.int 6)) dNil))))
noncomputable abbrev s1_2 : DS := (dSet 3 (dCall 3 F__law_line (dCons (dVar 2) (dCons (dLit (.int 30)) (dCons (dCall 2 F__law_one (dCons (dVar 2) (dCons (dLst (dCons (dLit (.int 2)) (dCons (dLit (.int 9)) (dCons (dLit (.int 99)) dNil)))) dNil))) dNil)))))
noncomputable abbrev s1_3 : DS := (dPar 4 5 (dCons (dLc (iAny (dVar 3)) (gSet 7) dYes (dBin oIx (dVar 7) (dLit (.int 0))) [7]) (dCons (dLit (.int 1)) dNil)))
noncomputable abbrev s1_4_b : DS := (dSet 5 (dBin oMulG (dVar 5) (dBin oAdd (dLit (.int 1)) (dFn fMin (dConsX (dBin oIx (dVar 7) (dLit (.int 1))) (dConsX (dBin oSub (dBin oSub (dFn fLen (dConsX (dVar 3) dNil)) (dLit (.int 1))) (dVar 6)) dNil))))))
noncomputable abbrev s1_4 : DS := (dFor (iEnu (dConsX (dVar 3) dNil)) (gTupZ (gAnd (gSet 6) (gAnd (gSet 7) gNon))) s1_4_b)
noncomputable abbrev s1_5 : DS := (dIfS (dNotT (dTst (dCall 2 F__law_same (dCons (dCall 1 F_how_many (dCons (dVar 3) dNil)) (dCons (dVar 5) dNil))))) (dRet (dLit (.bl false))) dSkip)
noncomputable abbrev s1_6 : DS := (dSet 8 (dLst dNil))
noncomputable abbrev s1_7_1 : DS := (dSet 10 (dCall 2 F_at_places (dCons (dVar 3) (dCons (dVar 9) dNil))))
noncomputable abbrev s1_7_2 : DS := (dDrop (dMeth .list mAppend (dVar 8) (dCons (dVar 10) dNil)))
noncomputable abbrev s1_7_3 : DS := (dIfS (dOrT (dTst (dBin oNe (dFn fSum (dConsX (dVar 10) dNil)) (dVar 5))) (dTst (dBin oLt (dFn fMin (dConsX (dVar 10) dNil)) (dLit (.int 0))))) (dRet (dLit (.bl false))) dSkip)
noncomputable abbrev s1_7_4 : DS := (dSet 11 (dLc (iEnu (dConsX (dVar 10) dNil)) (gTupZ (gAnd (gSet 15) (gAnd (gSet 16) gNon))) (dTst (dBin oGt (dVar 16) (dLit (.int 0)))) (dVar 15) [15, 16]))
noncomputable abbrev s1_7_5 : DS := (dAsg (gTupZ (gAnd (gSet 12) (gAnd (gSet 13) gNon))) (dCall 2 F_ends (dCons (dVar 3) (dCons (dVar 9) dNil))))
noncomputable abbrev s1_7_6 : DS := (dIfS (dOrT (dNotT (dTst (dCall 2 F__law_comes (dCons (dVar 3) (dCons (dVar 12) dNil))))) (dNotT (dTst (dCall 2 F__law_comes (dCons (dVar 3) (dCons (dVar 13) dNil)))))) (dRet (dLit (.bl false))) dSkip)
noncomputable abbrev s1_7_7 : DS := (dIfS (dTst (dBin oNe (dTup (dCons (dMeth2 mIndex (dVar 12) (dCons (dVar 9) dNil)) (dCons (dMeth2 mIndex (dVar 13) (dCons (dVar 9) dNil)) dNil))) (dTup (dCons (dBin oIx (dVar 11) (dLit (.int 0))) (dCons (dBin oIx (dVar 11) (dUn oNeg (dLit (.int 1)))) dNil))))) (dRet (dLit (.bl false))) dSkip)
noncomputable abbrev s1_7_b : DS := (dSeq s1_7_1 (dSeq s1_7_2 (dSeq s1_7_3 (dSeq s1_7_4 (dSeq s1_7_5 (dSeq s1_7_6 s1_7_7))))))
noncomputable abbrev s1_7 : DS := (dFor (iAny (dVar 4)) (gSet 9) s1_7_b)
noncomputable abbrev s1_8_b : DS := (dIfS (dTst (dBin oNe (dFn fSum (dConsX (dLc (iAny (dVar 8)) (gSet 7) dYes (dBin oIx (dVar 7) (dVar 14)) [7]) dNil)) (dVar 5))) (dRet (dLit (.bl false))) dSkip)
noncomputable abbrev s1_8 : DS := (dFor (iRan1 (dCons (dFn fLen (dConsX (dVar 4) dNil)) dNil)) (gSet 14) s1_8_b)
noncomputable abbrev s1_9 : DS := (dIfS (dNotT (dTst (dCall 4 F__law_pairs_right (dCons (dVar 2) (dCons (dVar 3) (dCons (dVar 4) (dCons (dVar 5) dNil))))))) (dRet (dLit (.bl false))) dSkip)
noncomputable abbrev s1_b : DS := (dSeq s1_1 (dSeq s1_2 (dSeq s1_3 (dSeq s1_4 (dSeq s1_5 (dSeq s1_6 (dSeq s1_7 (dSeq s1_8 s1_9))))))))
noncomputable abbrev s1 : DS := (dFor (iAny (dSl (dBin oAdd (dLst (dCons (dLit (.int 0)) dNil)) (dVar 0)) dNo (dPart (dLit (.int 8))))) (gSet 1) s1_b)
noncomputable abbrev s2 : DS := (dRet (dLit (.bl true)))
noncomputable abbrev sAll : DS := (dSeq s1 s2)
theorem law_eq : d_law = sAll := rfl
section
variable {d R T r : Nat} {m : Int} {L : List (Str × Int)} {S : Store} {c0 c1 c2 c3 c4 c5 c6 c7 c8 c9 c10 c11 c12 c13 c14 c15 c16 : Option PV}
theorem t3 (hl : L.length ≤ 1000) : s1_3 [c0, c1, c2, some (lineP L), c4, c5, c6, c7, c8, c9, c10, c11, c12, c13, c14, c15, c16] S =
    .ok (.nx [c0, c1, c2, some (lineP L), some (.ref .lst S.length), some (natP 1), c6, c7, c8, c9, c10, c11, c12, c13, c14, c15, c16]) (S ++ [.lst ((L.map (·.1)).map .str)]) :=
  par_ok (cons_ok (row_names (vs := []) (i := 3) (k := 7) rfl rfl (by simp) hl) rfl (cons_ok lit_ok rfl nil_ok))
theorem t4 (hl : L.length ≤ 1000) (h0 : ∀ p ∈ L, 0 ≤ p.2) : ∃ w6 w7, s1_4 [c0, c1, c2, some (lineP L), c4, some (natP 1), c6, c7, c8, c9, c10, c11, c12, c13, c14, c15, c16] S =
    .ok (.nx [c0, c1, c2, some (lineP L), c4, some (natP (prodN (capsL L))), w6, w7, c8, c9, c10, c11, c12, c13, c14, c15, c16]) S := by
  have hcz := caps_zip L 0 L.length (by omega) h0
  have hle := caps_le hl
  have hcl := capsL_len L
  obtain ⟨ρ', S', e, ⟨w6, w7, q1⟩, q2⟩ := forM (di := iEnu (dConsX (dVar 3) dNil)) (g := gTupZ (gAnd (gSet 6) (gAnd (gSet 7) gNon))) (b := s1_4_b) (ρ := [c0, c1, c2, some (lineP L), c4, some (natP 1), c6, c7, c8, c9, c10, c11, c12, c13, c14, c15, c16]) (S := S) (S1 := S) (f := fun S => (seqOf (lineP L) S).map enumL) (xs := L.zipIdx) (F := fun p => PV.tup [.int (p.2 : Nat), rowP p.1]) rfl (by simp only [lineP, seqOf_tup, Option.map_some]; rw [enum_map])
    (fun A ρ S' => (∃ w6 w7, ρ = [c0, c1, c2, some (lineP L), c4, some (natP (prodN ((capsL L).take A.length))), w6, w7, c8, c9, c10, c11, c12, c13, c14, c15, c16]) ∧ S' = S)
    (fun A ρ S' _ => by simp only [lineP, seqOf_tup, Option.map_some]; rw [enum_map]) ⟨⟨_, _, rfl⟩, rfl⟩ fun A a B ρ S' eq ⟨⟨w6, w7, q1⟩, q2⟩ => by
      subst q1 q2
      have hg : L.zipIdx[A.length]? = some a := by rw [eq]; simp
      have hm := congrArg (fun l => l[A.length]?) hcz
      simp only [List.getElem?_map, hg, Option.map_some] at hm
      obtain ⟨c, hc, hcv⟩ := Option.map_eq_some_iff.mp hm.symm
      have hcc := hle c (List.mem_of_getElem? hc)
      have etk : (capsL L).take (A.length + 1) = (capsL L).take A.length ++ [c] := by rw [List.take_add_one, hc]; rfl
      have hA := prod_lt ((capsL L).take A.length) fun c hm => hle c (List.mem_of_mem_take hm)
      have hAl : ((capsL L).take A.length).length ≤ 1000 := by simp; omega
      refine ⟨_, [c0, c1, c2, some (lineP L), c4, some (natP (prodN ((capsL L).take (A.length + 1)))), some (.int (a.2 : Nat)), some (rowP a.1), c8, c9, c10, c11, c12, c13, c14, c15, c16], S', rfl, .inl ?_, ⟨some (.int (a.2 : Nat)), some (rowP a.1), by rw [List.length_append]; rfl⟩, rfl⟩
      have v1 : dBin oIx (dVar 7) (dLit (.int 1)) [c0, c1, c2, some (lineP L), c4, some (natP (prodN ((capsL L).take A.length))), some (.int (a.2 : Nat)), some (rowP a.1), c8, c9, c10, c11, c12, c13, c14, c15, c16] S' = .ok (.int a.1.2) S' := bin_ok (var_ok rfl) lit_ok (row_ix1 _ _)
      have v2 : dBin oSub (dBin oSub (dFn fLen (dConsX (dVar 3) dNil)) (dLit (.int 1))) (dVar 6) [c0, c1, c2, some (lineP L), c4, some (natP (prodN ((capsL L).take A.length))), some (.int (a.2 : Nat)), some (rowP a.1), c8, c9, c10, c11, c12, c13, c14, c15, c16] S' = .ok (.int ((L.length : Int) - 1 - (a.2 : Nat))) S' :=
        bin_ok (bin_ok (x := .int (L.length : Int)) (fn1_ok (var_ok rfl) (by simp [fLen, lineP])) lit_ok rfl) (var_ok rfl) rfl
      have v3 : dFn fMin (dConsX (dBin oIx (dVar 7) (dLit (.int 1))) (dConsX (dBin oSub (dBin oSub (dFn fLen (dConsX (dVar 3) dNil)) (dLit (.int 1))) (dVar 6)) dNil)) [c0, c1, c2, some (lineP L), c4, some (natP (prodN ((capsL L).take A.length))), some (.int (a.2 : Nat)), some (rowP a.1), c8, c9, c10, c11, c12, c13, c14, c15, c16] S' = .ok (natP c) S' := by
        rw [dFn_eq, dConsX_eq, v1]
        simp only [Res.bind_ok]
        rw [dConsX_eq, v2]
        simp only [Res.bind_ok, dNil_eq, fMin, ofO_some]
        rw [hcv]
      refine set_ok (bin_ok (var_ok rfl) (bin_ok (z := natP (c + 1)) lit_ok v3 ?_) (mul_wide (b := 10001) (Nat.lt_of_lt_of_le hA (Nat.pow_le_pow_right (by omega) (by omega))) (by omega) (by omega) (by omega) S')) ?_
      · simp only [natP, oAdd_int]; congr 2; omega
      · rw [← prod_snoc, ← etk]; rfl
  subst q1 q2
  have hz : L.zipIdx.length = (capsL L).length := by simp [hcl]
  rw [hz, List.take_length] at e
  exact ⟨w6, w7, e⟩
theorem t5 (hL : Line L) : s1_5 [c0, c1, c2, some (lineP L), c4, some (natP (prodN (capsL L))), c6, c7, c8, c9, c10, c11, c12, c13, c14, c15, c16] S =
    .ok (.nx [c0, c1, c2, some (lineP L), c4, some (natP (prodN (capsL L))), c6, c7, c8, c9, c10, c11, c12, c13, c14, c15, c16]) S :=
  ifs_f (not_ok (k := true) (tst_ok (call_ok (cons_ok (call_ok (cons_ok (var_ok rfl) (bnd_line L S) nil_ok) rfl (ev_how_many hL S)) rfl (cons_ok (var_ok rfl) rfl nil_ok)) rfl (same_leaf 2 (x := natP (prodN (capsL L))) rfl S)))) rfl
theorem minL_nn {l : List Int} (h : l ≠ []) (h0 : ∀ y ∈ l, 0 ≤ y) : 0 ≤ minL l := by
  cases l with
  | nil => exact absurd rfl h
  | cons x xs => exact h0 _ (foldl_min_mem xs x).1
theorem sum_ref {α : Type} (f : α → Nat) (l : List α) {S : Store} {r : Nat} (h : S[r]? = some (.lst (l.map fun a => natP (f a)))) : fSum [.ref .lst r] S = some (natP (l.map f).sum) := by
  have := sum_natP f l S
  simp only [fSum, lstOf_tmp, Option.bind_some] at this
  simp only [fSum, lstOf_ref, h, Option.bind_some]
  exact this
theorem t73 (hL : Line L) {i : Nat} (hi : i < L.length) (hr : S[r]? = some (.lst ((List.range L.length).map fun p => natP (cntAt (capsL L) i p)))) : s1_7_3 [c0, c1, c2, c3, c4, some (natP (prodN (capsL L))), c6, c7, c8, c9, some (.ref .lst r), c11, c12, c13, c14, c15, c16] S =
    .ok (.nx [c0, c1, c2, c3, c4, some (natP (prodN (capsL L))), c6, c7, c8, c9, some (.ref .lst r), c11, c12, c13, c14, c15, c16]) S := by
  have hcl := capsL_len L
  have hs := sum_ref (fun p => cntAt (capsL L) i p) (List.range L.length) hr
  have hsa := sum_at (capsL_ok L) (i := i) (by omega)
  rw [hcl] at hsa
  rw [hsa] at hs
  have e : intsOf ((List.range L.length).map fun p => natP (cntAt (capsL L) i p)) = some ((List.range L.length).map fun p => ((cntAt (capsL L) i p : Nat) : Int)) := intsOf_map' (fun p => ((cntAt (capsL L) i p : Nat) : Int)) _
  have hne : ((List.range L.length).map fun p => ((cntAt (capsL L) i p : Nat) : Int)) ≠ [] := fun h => by
    have := congrArg List.length h
    rw [List.length_map, List.length_range, List.length_nil] at this
    omega
  have hmin : fMin [.ref .lst r] S = some (.int (minL ((List.range L.length).map fun p => ((cntAt (capsL L) i p : Nat) : Int)))) := by
    simp only [fMin, lstOf_ref, hr, Option.bind_some, e]
    rw [if_neg hne]
  have h0 := minL_nn hne (fun y hy => by obtain ⟨p, _, rfl⟩ := List.mem_map.mp hy; omega)
  refine ifs_f (or_f (tst_ok (bin_ok (fn1_ok (var_ok rfl) hs) (var_ok rfl) ?_)) (tst_ok (bin_ok (fn1_ok (var_ok rfl) hmin) lit_ok ?_))) rfl
  · simp only [natP]; rw [neI, decide_eq_true rfl]; rfl
  · rw [oLt_int, decide_eq_false (by omega)]
theorem t74 {n : Nat} {f : Nat → Nat} (hn : n ≤ 1000) (hr : S[r]? = some (.lst ((List.range n).map fun p => natP (f p)))) : s1_7_4 [c0, c1, c2, c3, c4, c5, c6, c7, c8, c9, some (.ref .lst r), c11, c12, c13, c14, c15, c16] S =
    .ok (.nx [c0, c1, c2, c3, c4, c5, c6, c7, c8, c9, some (.ref .lst r), some (.ref .lst S.length), c12, c13, c14, c15, c16]) (S ++ [.lst (((List.range n).filter fun p => decide (0 < f p)).map natP)]) := by
  have hen : enumL ((List.range n).map fun p => natP (f p)) = (List.range n).map fun p => PV.tup [natP p, natP (f p)] := by
    rw [enum_map, List.zipIdx_eq_zip_range']
    apply List.ext_getElem?
    intro i
    simp only [List.length_range]
    by_cases h : i < n
    · simp [List.getElem?_map, List.getElem?_range h, h, natP]
    · rw [List.getElem?_eq_none (by simp; omega), List.getElem?_eq_none (by simp; omega)]
  have hlc : dLc (iEnu (dConsX (dVar 10) dNil)) (gTupZ (gAnd (gSet 15) (gAnd (gSet 16) gNon))) (dTst (dBin oGt (dVar 16) (dLit (.int 0)))) (dVar 15) [15, 16] [c0, c1, c2, c3, c4, c5, c6, c7, c8, c9, some (.ref .lst r), c11, c12, c13, c14, c15, c16] S = .ok (.tmp (((List.range n).filter fun p => decide (0 < f p)).map natP)) S := by
    refine lcM (f := fun S => (seqOf (.ref .lst r) S).map enumL) (xs := List.range n) (F := fun p => PV.tup [natP p, natP (f p)]) ?_ (by simp only [seqOf_ref, hr, Option.map_some, hen]) (fun p => decide (0 < f p)) natP (fun p hp => ⟨_, rfl, tst_ok (bin_ok (var_ok rfl) lit_ok ?_), fun _ => ⟨rfl, rfl⟩⟩) (by simp; omega)
    · unfold iEnu
      rw [dConsX_eq, var_ok rfl]
      simp only [Res.bind_ok, dNil_eq, seqOf_ref, hr]
    · have : decide (0 < f p) = decide ((0 : Int) < (f p : Nat)) := decide_eq_decide.mpr (by omega)
      rw [this]; rfl
  exact set_ok hlc rfl
theorem t76 (hL : Line L) {ks ls : List Nat} (hk : ks ∈ codes (capsL L)) (hl : ls ∈ codes (capsL L)) : s1_7_6 [c0, c1, c2, some (lineP L), c4, c5, c6, c7, c8, c9, c10, c11, some (.tup ((ordC (L.map (·.1)) ks).map .str)), some (.tup ((ordC (L.map (·.1)) ls).map .str)), c14, c15, c16] S =
    .ok (.nx [c0, c1, c2, some (lineP L), c4, c5, c6, c7, c8, c9, c10, c11, some (.tup ((ordC (L.map (·.1)) ks).map .str)), some (.tup ((ordC (L.map (·.1)) ls).map .str)), c14, c15, c16]) S := by
  have hcl := capsL_len L
  have key : ∀ {ks : List Nat}, ks ∈ codes (capsL L) → F__law_comes [lineP L, .tup ((ordC (L.map (·.1)) ks).map .str)] S = .ok (.bl true) S := fun {ks} hk => by
    have hkl : ks.length = (L.map (·.1)).length := by rw [code_len hk, hcl]; simp
    have h := ev_law_comes (O := ordC (L.map (·.1)) ks) hL.len (fun n hn => (ordC_perm hkl).mem_iff.mpr hn) S
    rw [pas_ord hL.2.2.2 hkl (code_ok (capsL_ok L) hk), fits_codes hL.nn hk] at h
    exact h
  exact ifs_f (or_f (not_ok (k := true) (tst_ok (call_ok (cons_ok (var_ok rfl) (bnd_line L S) (cons_ok (var_ok rfl) rfl nil_ok)) rfl (key hk)))) (not_ok (k := true) (tst_ok (call_ok (cons_ok (var_ok rfl) (bnd_line L S) (cons_ok (var_ok rfl) rfl nil_ok)) rfl (key hl))))) rfl
theorem ne_two (a b : Int) : oNe (.tup [.int a, .int b]) (.tup [.int a, .int b]) S = some (.bl false) := by
  have h1 : dat S (.tup [.int a, .int b]) = some (.tuple [.int a, .int b]) := rfl
  simp only [oNe, eqD, h1]
  rw [if_pos (by simp [PyData.depth, PyData.depthAll])]
  simp [PyData.eqv, PyData.eqvAll]
theorem t77 {n : Str} {O1 O2 : List Str} {xs : List Nat} {a b : Nat} (h1 : n ∈ O1) (h2 : n ∈ O2) (e1 : O1.idxOf n = a) (e2 : O2.idxOf n = b) (hx : S[r]? = some (.lst (xs.map natP))) (ha : xs.head? = some a) (hb : xs.getLast? = some b) :
    s1_7_7 [c0, c1, c2, c3, c4, c5, c6, c7, c8, some (.str n), c10, some (.ref .lst r), some (.tup (O1.map .str)), some (.tup (O2.map .str)), c14, c15, c16] S =
    .ok (.nx [c0, c1, c2, c3, c4, c5, c6, c7, c8, some (.str n), c10, some (.ref .lst r), some (.tup (O1.map .str)), some (.tup (O2.map .str)), c14, c15, c16]) S := by
  have i1 := index_tup S h1
  have i2 := index_tup S h2
  rw [e1] at i1
  rw [e2] at i2
  have hne : xs ≠ [] := fun h => by rw [h] at ha; cases ha
  have hl : 0 < xs.length := List.length_pos_iff.mpr hne
  have x1 : oIx (.ref .lst r) (.int 0) S = some (.int (a : Int)) := oIx_ref (k := 0) hx (by rw [List.getElem?_map, ← List.head?_eq_getElem?, ha]; rfl)
  have x2 : oIx (.ref .lst r) (.int (-1)) S = some (.int (b : Int)) := by
    have e : L2.ixN (xs.map natP).length (-1) = some (xs.length - 1) := by
      unfold L2.ixN
      rw [if_neg (by omega), if_pos (by simp; omega)]
      simp only [List.length_map]
      congr 1
      omega
    simp only [oIx, seqOf_ref, hx, Option.bind_some, atP, L2.atI, e]
    show (xs.map natP)[xs.length - 1]? = _
    rw [List.getElem?_map, ← List.getLast?_eq_getElem?, hb]; rfl
  refine ifs_f (tst_ok (bin_ok (tup_ok (cons_ok (meth2_ok (var_ok rfl) (.inr rfl) (cons_ok (var_ok rfl) rfl nil_ok) i1) rfl (cons_ok (meth2_ok (var_ok rfl) (.inr rfl) (cons_ok (var_ok rfl) rfl nil_ok) i2) rfl nil_ok)) (by simp))
    (tup_ok (cons_ok (bin_ok (var_ok rfl) lit_ok x1) rfl (cons_ok (bin_ok (var_ok rfl) neg1 x2) rfl nil_ok)) (by simp)) (ne_two _ _))) rfl
end
end My

set_option Elab.async false
set_option linter.all false
set_option maxRecDepth 100000
set_option maxHeartbeats 8000000
namespace My
open PySem Z
section
variable {d Nm T : Nat} {m : Int} {L : List (Str × Int)} {S : Store} {c0 c1 c6 c7 c14 c15 c16 : Option PV}
def toldOf (L : List (Str × Int)) (i : Nat) : Cell := .lst ((List.range L.length).map fun p => natP (cntAt (capsL L) i p))
/-- what holds while the names are walked -/
structure Tab (L : List (Str × Int)) (d Nm T : Nat) (m : Int) (rs : List Nat) (S : Store) : Prop where
  st : St d m S
  nm : S[Nm]? = some (.lst ((L.map (·.1)).map .str))
  tb : S[T]? = some (.lst (rs.map (PV.ref .lst)))
  td : T ≠ d
  tn : T ≠ Nm
  el : ∀ (i r : Nat), rs[i]? = some r → r ≠ T ∧ S[r]? = some (toldOf L i)
theorem natP_cl (xs : List Nat) (n : Nat) : ∀ y ∈ xs.map natP, cV n y = true := fun y hy => by
  obtain ⟨p, _, rfl⟩ := List.mem_map.mp hy; rfl
theorem t7_step (hL : Line L) {rs : List Nat} (h : Tab L d Nm T m rs S) (hrl : rs.length < L.length) {n : Str} (hn : (L.map (·.1))[rs.length]? = some n) (w10 w11 w12 w13 : Option PV) :
    ∃ (y10 y11 y12 y13 : Option PV) (r : Nat) (S' : Store), s1_7_b [c0, c1, some (.ref .lst d), some (lineP L), some (.ref .lst Nm), some (natP (prodN (capsL L))), c6, c7, some (.ref .lst T), some (.str n), w10, w11, w12, w13, c14, c15, c16] S =
      .ok (.nx [c0, c1, some (.ref .lst d), some (lineP L), some (.ref .lst Nm), some (natP (prodN (capsL L))), c6, c7, some (.ref .lst T), some (.str n), y10, y11, y12, y13, c14, c15, c16]) S' ∧ Tab L d Nm T m (rs ++ [r]) S' := by
  have hl := hL.len
  have hcl := capsL_len L
  have hok := capsL_ok L
  have hi := names_get hn
  have hN := hL.2.2.2
  have hTl := (List.getElem?_eq_some_iff.mp h.tb).1
  have hNl := (List.getElem?_eq_some_iff.mp h.nm).1
  let S1 := S ++ [toldOf L rs.length]
  let S2 := S1.set T (.lst ((rs ++ [S.length]).map (PV.ref .lst)))
  let sp := (List.range L.length).filter fun p => decide (0 < cntAt (capsL L) rs.length p)
  let S3 := S2 ++ [.lst (sp.map natP)]
  have l1 : S1.length = S.length + 1 := by simp [S1]
  have l2 : S2.length = S.length + 1 := by simp [S2, S1]
  obtain ⟨c, hc⟩ : ∃ c, (capsL L)[rs.length]? = some c := ⟨_, List.getElem?_eq_getElem (by omega)⟩
  obtain ⟨f1, f2, f3⟩ := fm_ok (cs := capsL L) (i := rs.length) (by omega)
  obtain ⟨g1, g2, g3⟩ := ls_ok hc
  have hT1 : S1[T]? = some (.lst (rs.map (PV.ref .lst))) := get_app h.tb
  have st1 : St d m S1 := app_lst h.st (fun y hy => by obtain ⟨p, _, rfl⟩ := List.mem_map.mp hy; rfl)
  have st2 : St d m S2 := st1.setCell h.td (by
    simp only [cC, cVs_all, List.all_eq_true]
    intro y hy
    obtain ⟨r, hr, rfl⟩ := List.mem_map.mp hy
    have : r < S.length + 1 := by
      rcases List.mem_append.mp hr with q | q
      · obtain ⟨i, hi⟩ := List.mem_iff_getElem?.mp q
        have := (List.getElem?_eq_some_iff.mp (h.el i r hi).2).1
        omega
      · simp only [List.mem_singleton] at q; omega
    rw [l1]
    simpa [cV] using this)
  have st3 : St d m S3 := app_lst st2 (natP_cl _ _)
  have hr2 : S2[S.length]? = some (toldOf L rs.length) := by
    simp only [S2]
    rw [List.getElem?_set_ne (by omega)]
    simp [S1]
  have t1 : s1_7_1 [c0, c1, some (.ref .lst d), some (lineP L), some (.ref .lst Nm), some (natP (prodN (capsL L))), c6, c7, some (.ref .lst T), some (.str n), w10, w11, w12, w13, c14, c15, c16] S =
      .ok (.nx [c0, c1, some (.ref .lst d), some (lineP L), some (.ref .lst Nm), some (natP (prodN (capsL L))), c6, c7, some (.ref .lst T), some (.str n), some (.ref .lst S.length), w11, w12, w13, c14, c15, c16]) S1 :=
    set_ok (call_ok (cons_ok (var_ok rfl) (bnd_line L S) (cons_ok (var_ok rfl) rfl nil_ok)) rfl (ev_at_places hL hn S)) rfl
  have happ : mAppend (.ref .lst T) [.ref .lst S.length] S1 = some (.non, S2) := by
    simp only [mAppend, onCell, hT1]
    rw [if_pos (by simp; omega)]
    simp [S2]
  have t2 : s1_7_2 [c0, c1, some (.ref .lst d), some (lineP L), some (.ref .lst Nm), some (natP (prodN (capsL L))), c6, c7, some (.ref .lst T), some (.str n), some (.ref .lst S.length), w11, w12, w13, c14, c15, c16] S1 =
      .ok (.nx [c0, c1, some (.ref .lst d), some (lineP L), some (.ref .lst Nm), some (natP (prodN (capsL L))), c6, c7, some (.ref .lst T), some (.str n), some (.ref .lst S.length), w11, w12, w13, c14, c15, c16]) S2 :=
    drop_ok (meth_ok (var_ok rfl) rfl (cons_ok (var_ok rfl) rfl nil_ok) happ)
  have t3 := t73 (c0 := c0) (c1 := c1) (c2 := some (.ref .lst d)) (c3 := some (lineP L)) (c4 := some (.ref .lst Nm)) (c6 := c6) (c7 := c7) (c8 := some (.ref .lst T)) (c9 := some (.str n)) (c11 := w11) (c12 := w12) (c13 := w13) (c14 := c14) (c15 := c15) (c16 := c16) hL hi hr2
  have t4 := t74 (c0 := c0) (c1 := c1) (c2 := some (.ref .lst d)) (c3 := some (lineP L)) (c4 := some (.ref .lst Nm)) (c5 := some (natP (prodN (capsL L)))) (c6 := c6) (c7 := c7) (c8 := some (.ref .lst T)) (c9 := some (.str n)) (c11 := w11) (c12 := w12) (c13 := w13) (c14 := c14) (c15 := c15) (c16 := c16) hl hr2
  have t5 : s1_7_5 [c0, c1, some (.ref .lst d), some (lineP L), some (.ref .lst Nm), some (natP (prodN (capsL L))), c6, c7, some (.ref .lst T), some (.str n), some (.ref .lst S.length), some (.ref .lst S2.length), w12, w13, c14, c15, c16] S3 =
      .ok (.nx [c0, c1, some (.ref .lst d), some (lineP L), some (.ref .lst Nm), some (natP (prodN (capsL L))), c6, c7, some (.ref .lst T), some (.str n), some (.ref .lst S.length), some (.ref .lst S2.length), some (.tup ((ordC (L.map (·.1)) (fmP (capsL L) rs.length)).map .str)), some (.tup ((ordC (L.map (·.1)) (lsP (capsL L) rs.length)).map .str)), c14, c15, c16]) S3 :=
    asg_ok (call_ok (cons_ok (var_ok rfl) (bnd_line L S3) (cons_ok (var_ok rfl) rfl nil_ok)) rfl (ev_ends hL hn S3)) rfl
  have t6 := t76 (S := S3) (c0 := c0) (c1 := c1) (c2 := some (.ref .lst d)) (c4 := some (.ref .lst Nm)) (c5 := some (natP (prodN (capsL L)))) (c6 := c6) (c7 := c7) (c8 := some (.ref .lst T)) (c9 := some (.str n)) (c10 := some (.ref .lst S.length)) (c11 := some (.ref .lst S2.length)) (c14 := c14) (c15 := c15) (c16 := c16) hL f1 g1
  have hkl : ∀ {ks : List Nat}, ks ∈ codes (capsL L) → ks.length = (L.map (·.1)).length := fun {ks} hk => by rw [code_len hk, hcl]; simp
  have hmem : n ∈ L.map (·.1) := List.mem_of_getElem? hn
  have hlp : rs.length + c < L.length := by
    have := posC_lt (cs := capsL L) (code_ok hok g1) (i := rs.length) (by rw [hkl g1]; simpa using hi)
    rw [g2, hkl g1] at this
    simpa using this
  obtain ⟨p1, p2⟩ := spots_ends (q := fun p => decide (0 < cntAt (capsL L) rs.length p)) (n := L.length) (a := fmS (capsL L) rs.length) (b := rs.length + c)
    (decide_eq_true (cnt_pos.mpr ⟨_, f1, f2⟩)) (decide_eq_true (cnt_pos.mpr ⟨_, g1, g2⟩)) hlp
    (fun p hp => by obtain ⟨ks, hk, e⟩ := cnt_pos.mp (of_decide_eq_true hp); exact ⟨by rw [← e]; exact f3 ks hk, by rw [← e]; exact g3 ks hk⟩)
  have t7 := t77 (r := S2.length) (S := S3) (n := n) (O1 := ordC (L.map (·.1)) (fmP (capsL L) rs.length)) (O2 := ordC (L.map (·.1)) (lsP (capsL L) rs.length)) (xs := sp)
    (c0 := c0) (c1 := c1) (c2 := some (.ref .lst d)) (c3 := some (lineP L)) (c4 := some (.ref .lst Nm)) (c5 := some (natP (prodN (capsL L)))) (c6 := c6) (c7 := c7) (c8 := some (.ref .lst T)) (c10 := some (.ref .lst S.length)) (c14 := c14) (c15 := c15) (c16 := c16)
    ((ordC_perm (hkl f1)).mem_iff.mpr hmem) ((ordC_perm (hkl g1)).mem_iff.mpr hmem) (by rw [idx_ord hN (hkl f1) (code_ok hok f1) hn, f2]) (by rw [idx_ord hN (hkl g1) (code_ok hok g1) hn, g2]) (by simp [S3]) p1 p2
  have hT2 : S2[T]? = some (.lst ((rs ++ [S.length]).map (PV.ref .lst))) := by simp only [S2]; rw [List.getElem?_set_self (by omega)]
  refine ⟨_, _, _, _, S.length, S3, seq_nx t1 (seq_nx t2 (seq_nx t3 (seq_nx t4 (seq_nx t5 (seq_nx t6 t7))))), st3, ?_, get_app hT2, h.td, h.tn, fun i r hir => ?_⟩
  · refine get_app ?_
    simp only [S2]
    rw [List.getElem?_set_ne h.tn]
    exact get_app h.nm
  · by_cases q : i < rs.length
    · rw [List.getElem?_append_left q] at hir
      obtain ⟨q1, q2⟩ := h.el i r hir
      refine ⟨q1, get_app ?_⟩
      simp only [S2]
      rw [List.getElem?_set_ne (Ne.symm q1)]
      exact get_app q2
    · rw [List.getElem?_append_right (by omega)] at hir
      have hz : i = rs.length := by
        have := (List.getElem?_eq_some_iff.mp hir).1
        simp at this; omega
      subst hz
      simp at hir
      subst hir
      exact ⟨by omega, get_app hr2⟩
theorem t7_all (hL : Line L) (h : Tab L d Nm T m [] S) (w9 w10 w11 w12 w13 : Option PV) :
    ∃ (y9 y10 y11 y12 y13 : Option PV) (rs : List Nat) (S' : Store), s1_7 [c0, c1, some (.ref .lst d), some (lineP L), some (.ref .lst Nm), some (natP (prodN (capsL L))), c6, c7, some (.ref .lst T), w9, w10, w11, w12, w13, c14, c15, c16] S =
      .ok (.nx [c0, c1, some (.ref .lst d), some (lineP L), some (.ref .lst Nm), some (natP (prodN (capsL L))), c6, c7, some (.ref .lst T), y9, y10, y11, y12, y13, c14, c15, c16]) S' ∧ Tab L d Nm T m rs S' ∧ rs.length = L.length := by
  obtain ⟨ρ', S', e, y9, y10, y11, y12, y13, rs, q1, q2, q3⟩ := forM (di := iAny (dVar 4)) (g := gSet 9) (b := s1_7_b) (ρ := [c0, c1, some (.ref .lst d), some (lineP L), some (.ref .lst Nm), some (natP (prodN (capsL L))), c6, c7, some (.ref .lst T), w9, w10, w11, w12, w13, c14, c15, c16]) (S := S) (S1 := S) (f := seqOf (.ref .lst Nm)) (xs := L.map (·.1)) (F := PV.str)
    (any_ok (xs := (L.map (·.1)).map .str) (var_ok rfl) (fun z => by simp) (by simp only [seqOf_ref, h.nm])) (by simp only [seqOf_ref, h.nm])
    (fun A ρ S' => ∃ y9 y10 y11 y12 y13 rs, ρ = [c0, c1, some (.ref .lst d), some (lineP L), some (.ref .lst Nm), some (natP (prodN (capsL L))), c6, c7, some (.ref .lst T), y9, y10, y11, y12, y13, c14, c15, c16] ∧ Tab L d Nm T m rs S' ∧ rs.length = A.length)
    (fun A ρ S' ⟨_, _, _, _, _, _, _, h, _⟩ => by simp only [seqOf_ref, h.nm]) ⟨_, _, _, _, _, [], rfl, h, rfl⟩ fun A a B ρ S' eq ⟨y9, y10, y11, y12, y13, rs, q1, q2, q3⟩ => by
      subst q1
      have hlt : rs.length < L.length := by
        have := congrArg List.length eq
        simp at this; omega
      have hn : (L.map (·.1))[rs.length]? = some a := by rw [eq, q3]; simp
      obtain ⟨z10, z11, z12, z13, r, S2, e, ht⟩ := t7_step (c0 := c0) (c1 := c1) (c6 := c6) (c7 := c7) (c14 := c14) (c15 := c15) (c16 := c16) hL q2 hlt hn y10 y11 y12 y13
      exact ⟨_, _, S2, rfl, .inl e, _, _, _, _, _, rs ++ [r], rfl, ht, by simp [q3]⟩
  subst q1
  exact ⟨_, _, _, _, _, rs, S', e, q2, by simpa using q3⟩
theorem t8_all (hL : Line L) {rs : List Nat} (h : Tab L d Nm T m rs S) (hrl : rs.length = L.length) (w9 w10 w11 w12 w13 : Option PV) :
    ∃ (y7 y14 : Option PV), s1_8 [c0, c1, some (.ref .lst d), some (lineP L), some (.ref .lst Nm), some (natP (prodN (capsL L))), c6, c7, some (.ref .lst T), w9, w10, w11, w12, w13, c14, c15, c16] S =
      .ok (.nx [c0, c1, some (.ref .lst d), some (lineP L), some (.ref .lst Nm), some (natP (prodN (capsL L))), c6, y7, some (.ref .lst T), w9, w10, w11, w12, w13, y14, c15, c16]) S := by
  have hl := hL.len
  have hcl := capsL_len L
  have hok := capsL_ok L
  have hsrc : iRan1 (dCons (dFn fLen (dConsX (dVar 4) dNil)) dNil) [c0, c1, some (.ref .lst d), some (lineP L), some (.ref .lst Nm), some (natP (prodN (capsL L))), c6, c7, some (.ref .lst T), w9, w10, w11, w12, w13, c14, c15, c16] S = .ok (fun _ => some (rngL 0 L.length)) S := by
    have hlen := fLen_ref h.nm
    have hll : ((L.map (·.1)).map PV.str).length = L.length := by simp
    rw [hll] at hlen
    have := ran1_ok (S := S) (S1 := S) (r := dCons (dFn fLen (dConsX (dVar 4) dNil)) dNil) (j := (L.length : Int)) (cons_ok (fn1_ok (var_ok rfl) hlen) rfl nil_ok) (by omega) (by omega) (ρ := [c0, c1, some (.ref .lst d), some (lineP L), some (.ref .lst Nm), some (natP (prodN (capsL L))), c6, c7, some (.ref .lst T), w9, w10, w11, w12, w13, c14, c15, c16])
    rw [Int.toNat_natCast] at this
    exact this
  obtain ⟨ρ', S', e, ⟨y7, y14, q1⟩, q2⟩ := forM (g := gSet 14) (b := s1_8_b) (xs := List.range L.length) (F := natP) hsrc (by simp [rngL, natP])
    (fun A ρ S' => (∃ y7 y14, ρ = [c0, c1, some (.ref .lst d), some (lineP L), some (.ref .lst Nm), some (natP (prodN (capsL L))), c6, y7, some (.ref .lst T), w9, w10, w11, w12, w13, y14, c15, c16]) ∧ S' = S)
    (fun _ _ _ _ => by simp [rngL, natP]) ⟨⟨_, _, rfl⟩, rfl⟩ fun A a B ρ S' eq ⟨⟨y7, y14, q1⟩, q2⟩ => by
      subst q1 q2
      have ha : a < L.length := List.mem_range.mp (by rw [eq]; simp)
      have hmr : rs.map (PV.ref .lst) = (List.range L.length).map fun i => PV.ref .lst (rs.getD i 0) := by
        apply List.ext_getElem?
        intro i
        rw [List.getElem?_map, List.getElem?_map]
        by_cases h : i < L.length
        · rw [List.getElem?_range h, List.getElem?_eq_getElem (by omega)]; simp [List.getD, h, hrl]
        · rw [List.getElem?_eq_none (by omega), List.getElem?_eq_none (by simp; omega)]; rfl
      have hlc : dLc (iAny (dVar 8)) (gSet 7) dYes (dBin oIx (dVar 7) (dVar 14)) [7] [c0, c1, some (.ref .lst d), some (lineP L), some (.ref .lst Nm), some (natP (prodN (capsL L))), c6, y7, some (.ref .lst T), w9, w10, w11, w12, w13, some (natP a), c15, c16] S' =
          .ok (.tmp ((List.range L.length).map fun i => natP (cntAt (capsL L) i a))) S' := by
        refine lcM_all (f := seqOf (.ref .lst T)) (xs := List.range L.length) (F := fun i => PV.ref .lst (rs.getD i 0)) (any_ok (S1 := S') (xs := rs.map (PV.ref .lst)) (var_ok rfl) (fun z => by simp) (by simp only [seqOf_ref, h.tb])) (by simp only [seqOf_ref, h.tb]; rw [hmr]) _ (fun i hi => ⟨_, rfl, ?_, rfl⟩) (by simp; omega)
        have hi2 := List.mem_range.mp hi
        have hg : rs[i]? = some (rs.getD i 0) := by rw [List.getD_eq_getElem?_getD, List.getElem?_eq_getElem (by omega)]; rfl
        have hr := (h.el i _ hg).2
        refine bin_ok (var_ok rfl) (var_ok rfl) (oIx_ref (k := a) (xs := (List.range L.length).map fun p => natP (cntAt (capsL L) i p)) hr ?_)
        rw [List.getElem?_map, List.getElem?_range ha]; rfl
      have hs := sum_folk hok (p := a) (by omega)
      rw [hcl] at hs
      refine ⟨_, _, S', rfl, .inl (ifs_f (tst_ok (bin_ok (fn1_ok hlc (sum_natP (fun i => cntAt (capsL L) i a) _ S')) (var_ok rfl) ?_)) rfl), ⟨_, _, rfl⟩, rfl⟩
      rw [hs]
      simp only [natP]; rw [neI, decide_eq_true rfl]; rfl
  subst q1 q2
  exact ⟨_, _, e⟩
theorem t9_all (hL : Line L) {rs : List Nat} (h : Tab L d Nm T m rs S) (hNd : Nm ≠ d) (hm : m + 1000 < 1073741824) (w6 w7 w9 w10 w11 w12 w13 w14 : Option PV) :
    ∃ S', s1_9 [c0, c1, some (.ref .lst d), some (lineP L), some (.ref .lst Nm), some (natP (prodN (capsL L))), w6, w7, some (.ref .lst T), w9, w10, w11, w12, w13, w14, c15, c16] S =
      .ok (.nx [c0, c1, some (.ref .lst d), some (lineP L), some (.ref .lst Nm), some (natP (prodN (capsL L))), w6, w7, some (.ref .lst T), w9, w10, w11, w12, w13, w14, c15, c16]) S' ∧ St d (m + 20) S' := by
  obtain ⟨S', e, st⟩ := ev_pairs hL h.st hm hNd h.nm
  exact ⟨S', ifs_f (not_ok (k := true) (tst_ok (call_ok (cons_ok (var_ok rfl) rfl (cons_ok (var_ok rfl) (bnd_line L S) (cons_ok (var_ok rfl) rfl (cons_ok (var_ok rfl) rfl nil_ok)))) rfl e))) rfl, st⟩
end
end My

set_option Elab.async false
set_option linter.all false
set_option maxRecDepth 100000
set_option maxHeartbeats 8000000
namespace My
open PySem Z
theorem ev_turn {S : Store} (hcl : ∀ (i : Nat) c, S[i]? = some c → cC S.length c = true) (cell : Int) (s : PV) (v2 v3 v4 v5 v6 v7 v8 v9 v10 v11 v12 v13 v14 : Option PV) :
    ∃ (w2 w3 w4 w5 w6 w7 w8 w9 w10 w11 w12 w13 w14 : Option PV) (S' : Store), s1_b [some s, some (.int cell), v2, v3, v4, v5, v6, v7, v8, v9, v10, v11, v12, v13, v14, none, none] S = .ok (.nx [some s, some (.int cell), w2, w3, w4, w5, w6, w7, w8, w9, w10, w11, w12, w13, w14, none, none]) S'
      ∧ (∀ (i : Nat) c, S'[i]? = some c → cC S'.length c = true) := by
  obtain ⟨a, b, e1, ha, hb, hb2⟩ := ev_deck cell 6 S
  have st1 := St.ofApp hcl ha hb hb2 (by omega : (0 : Int) ≤ 6)
  have t1 : s1_1 [some s, some (.int cell), v2, v3, v4, v5, v6, v7, v8, v9, v10, v11, v12, v13, v14, none, none] S = .ok (.nx [some s, some (.int cell), some (.ref .lst S.length), v3, v4, v5, v6, v7, v8, v9, v10, v11, v12, v13, v14, none, none]) (S ++ [.lst [.int a, .int b, .int 6]]) :=
    set_ok (call_ok (cons_ok (var_ok rfl) rfl (cons_ok lit_ok rfl nil_ok)) rfl e1) rfl
  generalize S ++ [Cell.lst [.int a, .int b, .int 6]] = S1 at t1 st1
  generalize S.length = d at t1 st1
  have hd1 := st1.lt
  have st2 := app_lst st1 (xs := [.int 2, .int 9, .int 99]) (fun y hy => by
    simp only [List.mem_cons, List.not_mem_nil, or_false] at hy
    rcases hy with rfl | rfl | rfl <;> rfl)
  have hseq : IsSeq (· = d) (S1 ++ [Cell.lst [.int 2, .int 9, .int 99]]) (.ref .lst S1.length) [.int 2, .int 9, .int 99] := .inr ⟨_, by omega, rfl, by simp⟩
  obtain ⟨y, S3, e3, hy, ev3, len3, st3⟩ := ev_one (av := (· = d)) st2 (by omega) rfl hseq (by simp) (by simp) (by intro y hy; simp only [List.mem_cons, List.not_mem_nil, or_false] at hy; rcases hy with rfl | rfl | rfl <;> rfl)
  obtain ⟨v, rfl, hv0, hv1⟩ : ∃ v : Int, y = .int v ∧ 0 ≤ v ∧ v ≤ 99 := by
    simp only [List.mem_cons, List.not_mem_nil, or_false] at hy
    rcases hy with rfl | rfl | rfl
    · exact ⟨2, rfl, by omega, by omega⟩
    · exact ⟨9, rfl, by omega, by omega⟩
    · exact ⟨99, rfl, by omega, by omega⟩
  obtain ⟨L, S4, e4, hL, _, ev4, st4⟩ := ev_line (am := 30) (ls := v) (by omega) (by omega) hv0 hv1 st3 (by omega)
  have t2 : s1_2 [some s, some (.int cell), some (.ref .lst d), v3, v4, v5, v6, v7, v8, v9, v10, v11, v12, v13, v14, none, none] S1 = .ok (.nx [some s, some (.int cell), some (.ref .lst d), some (lineP L), v4, v5, v6, v7, v8, v9, v10, v11, v12, v13, v14, none, none]) S4 := by
    have hl3 : dLst (dCons (dLit (.int 2)) (dCons (dLit (.int 9)) (dCons (dLit (.int 99)) dNil))) [some s, some (.int cell), some (.ref .lst d), v3, v4, v5, v6, v7, v8, v9, v10, v11, v12, v13, v14, none, none] S1 = .ok (.tmp [.int 2, .int 9, .int 99]) S1 :=
      lst_ok (cons_ok lit_ok rfl (cons_ok lit_ok rfl (cons_ok lit_ok rfl nil_ok))) (by simp)
    exact set_ok (call_ok (cons_ok (var_ok rfl) rfl (cons_ok lit_ok rfl (cons_ok (call_ok (cons_ok (var_ok rfl) rfl (cons_ok hl3 rfl nil_ok)) rfl e3) rfl nil_ok))) rfl e4) (bnd_line L S4)
  have hl := hL.len
  have t3' := t3 (S := S4) (L := L) (c0 := some s) (c1 := some (.int cell)) (c2 := some (.ref .lst d)) (c4 := v4) (c5 := v5) (c6 := v6) (c7 := v7) (c8 := v8) (c9 := v9) (c10 := v10) (c11 := v11) (c12 := v12) (c13 := v13) (c14 := v14) (c15 := none) (c16 := none) hl
  have st5 := app_lst st4 (xs := (L.map (·.1)).map .str) (fun y hy => by obtain ⟨p, _, rfl⟩ := List.mem_map.mp hy; rfl)
  have hd4 := st4.lt
  have hNm : (S4 ++ [Cell.lst ((L.map (·.1)).map .str)])[S4.length]? = some (.lst ((L.map (·.1)).map .str)) := by simp
  generalize hS5 : S4 ++ [Cell.lst ((L.map (·.1)).map .str)] = S5 at t3' st5 hNm
  have hNd : S4.length ≠ d := by omega
  generalize S4.length = Nm at t3' hNm hNd
  have hd5 := st5.lt
  have hNl := (List.getElem?_eq_some_iff.mp hNm).1
  obtain ⟨w6, w7, t4'⟩ := t4 (S := S5) (L := L) (c0 := some s) (c1 := some (.int cell)) (c2 := some (.ref .lst d)) (c4 := some (.ref .lst Nm)) (c6 := v6) (c7 := v7) (c8 := v8) (c9 := v9) (c10 := v10) (c11 := v11) (c12 := v12) (c13 := v13) (c14 := v14) (c15 := none) (c16 := none) hl hL.nn
  have t5' := t5 (S := S5) (c0 := some s) (c1 := some (.int cell)) (c2 := some (.ref .lst d)) (c4 := some (.ref .lst Nm)) (c6 := w6) (c7 := w7) (c8 := v8) (c9 := v9) (c10 := v10) (c11 := v11) (c12 := v12) (c13 := v13) (c14 := v14) (c15 := none) (c16 := none) hL
  have t6' : s1_6 [some s, some (.int cell), some (.ref .lst d), some (lineP L), some (.ref .lst Nm), some (natP (prodN (capsL L))), w6, w7, v8, v9, v10, v11, v12, v13, v14, none, none] S5 =
      .ok (.nx [some s, some (.int cell), some (.ref .lst d), some (lineP L), some (.ref .lst Nm), some (natP (prodN (capsL L))), w6, w7, some (.ref .lst S5.length), v9, v10, v11, v12, v13, v14, none, none]) (S5 ++ [.lst []]) :=
    set_ok (lst_ok nil_ok (by simp)) rfl
  have tab : Tab L d Nm S5.length (6 + 1 + 100) [] (S5 ++ [.lst []]) := ⟨app_lst st5 (fun y hy => by simp at hy), get_app hNm, by simp, by omega, by omega, fun i r h => by simp at h⟩
  obtain ⟨w9, w10, w11, w12, w13, rs, S7, t7', tab7, hrl⟩ := t7_all (c0 := some s) (c1 := some (.int cell)) (c6 := w6) (c7 := w7) (c14 := v14) (c15 := none) (c16 := none) hL tab v9 v10 v11 v12 v13
  obtain ⟨y7, y14, t8'⟩ := t8_all (c0 := some s) (c1 := some (.int cell)) (c6 := w6) (c7 := w7) (c14 := v14) (c15 := none) (c16 := none) hL tab7 hrl w9 w10 w11 w12 w13
  obtain ⟨S9, t9', st9⟩ := t9_all (c0 := some s) (c1 := some (.int cell)) (c15 := none) (c16 := none) hL tab7 hNd (by omega) w6 y7 w9 w10 w11 w12 w13 y14
  exact ⟨_, _, _, _, _, _, _, _, _, _, _, _, _, S9, seq_nx t1 (seq_nx t2 (seq_nx t3' (seq_nx t4' (seq_nx t5' (seq_nx t6' (seq_nx t7' (seq_nx t8' t9'))))))), st9.cl⟩
theorem ev_law (ns : List Int) (hns : ns.length ≤ 63) : ∃ S', F_law [.frz (ns.map .int)] [] = .ok (.bl true) S' := by
  have hcells : ∀ (ρ : LEnv) (S : Store), ρ[0]? = some (some (.frz (ns.map .int))) → (iAny (dSl (dBin oAdd (dLst (dCons (dLit (.int 0)) dNil)) (dVar 0)) dNo (dPart (dLit (.int 8))))) ρ S = .ok (seqOf (.tmp (cutP (([0] ++ ns).map PV.int) none (some 8)))) S := fun ρ S h => by
    have a1 : oAdd (.tmp [.int 0]) (.frz (ns.map .int)) S = some (.tmp (([0] ++ ns).map PV.int)) := by
      simp only [oAdd, lstOf_tmp, lstOf_frz]
      rw [if_pos (by simp; omega)]
      simp
    exact any_ok (sl_hi (bin_ok (lst_ok (cons_ok lit_ok rfl nil_ok) (by simp)) (var_ok h) a1) lit_ok (by simp [slP])) (fun z => by simp) rfl
  obtain ⟨ρ', S', e9, hI⟩ := dFor_inv (d := iAny (dSl (dBin oAdd (dLst (dCons (dLit (.int 0)) dNil)) (dVar 0)) dNo (dPart (dLit (.int 8))))) (g := gSet 1) (b := s1_b) (ρ := [some (.frz (ns.map .int)), none, none, none, none, none, none, none, none, none, none, none, none, none, none, none, none]) (S := []) (S1 := []) (hcells _ _ rfl) rfl
    (fun l ρ S => ∃ v1 v2 v3 v4 v5 v6 v7 v8 v9 v10 v11 v12 v13 v14, ρ = [some (.frz (ns.map .int)), v1, v2, v3, v4, v5, v6, v7, v8, v9, v10, v11, v12, v13, v14, none, none] ∧ (∀ (i : Nat) c, S[i]? = some c → cC S.length c = true))
    (fun _ _ _ _ => rfl) ⟨none, none, none, none, none, none, none, none, none, none, none, none, none, none, rfl, fun i c hc => by simp at hc⟩
    (fun l x r ρ S hl ⟨v1, v2, v3, v4, v5, v6, v7, v8, v9, v10, v11, v12, v13, v14, h1, h2⟩ => by
      subst h1
      have hm : x ∈ ([0] ++ ns).map PV.int := cutP_sub _ none (some 8) x (by rw [← hl]; simp)
      obtain ⟨cell, _, rfl⟩ := List.mem_map.mp hm
      obtain ⟨w2, w3, w4, w5, w6, w7, w8, w9, w10, w11, w12, w13, w14, S2, e, c2⟩ := ev_turn h2 cell (.frz (ns.map .int)) v2 v3 v4 v5 v6 v7 v8 v9 v10 v11 v12 v13 v14
      exact ⟨_, _, S2, rfl, .inl e, _, w2, w3, w4, w5, w6, w7, w8, w9, w10, w11, w12, w13, w14, rfl, c2⟩)
  obtain ⟨v1, v2, v3, v4, v5, v6, v7, v8, v9, v10, v11, v12, v13, v14, rfl, _⟩ := hI
  obtain ⟨S'', g⟩ := gc_bool true S'
  exact ⟨S'', fn_rt (b := d_law) (m := 17) (show sAll _ _ = _ from seq_nx e9 (ret_ok lit_ok)) g⟩
end My

set_option Elab.async false
set_option linter.all false
set_option maxRecDepth 100000
set_option maxHeartbeats 4000000
namespace My
open PySem L2 Z
/-- the script is a list of whole numbers that nobody changes -/
def spLaw (K : PySem.W.Frag) : Sp := fun vs H Q _ => ∃ (a : Addr) (ns : List Int), vs = [.ref a] ∧ SqF K H a (ns.map V.int) ∧ ns.length ≤ 63 ∧ ∀ H', Q (.bl true) H'
theorem law_imp {K : PySem.W.Frag} {mg : Str → Option Value} : ∀ vs H Q E, spLaw K vs H Q E → spZ ⟨K, mg, []⟩ 1 F_law vs H Q E := fun vs H Q E ⟨a, ns, hv, hS, hl, hq⟩ => by
  subst hv
  obtain ⟨S1, e⟩ := ev_law ns hl
  refine ⟨rfl, ⟨fun _ => 0, []⟩, [.frz (ns.map .int)], [], .bl true, S1, ⟨rfl, fun i c h => by simp at h, fun i j h => absurd h (by simp), fun x hx => absurd hx (by simp)⟩, ?_, e, fun M' H' v n rs rx fr => ?_⟩
  · exact RVs.cons (by simp only [RV]; exact ⟨a, _, rfl, hS, rvs_ints ns⟩) RVs.nil
  · rw [rx_bl rx]; exact hq H'
theorem all_mk {l : PySem.W.OpenLaw} {w : World} {K : PySem.W.Frag} {h : Heap} {mg : Str → Option Value} {fa : Addr} (X : K.In h) (G : h.Ns mainGlobals mg) (hfa : mg "law" = some (.ref fa))
  {f0 : Addr} {od0 an0 : Option Addr} {sl0 : Array (Option Value)} {oc0 kV0 dc0 pm0 cd0 ct0 : Value} {f1 : Addr} {od1 an1 : Option Addr} {sl1 : Array (Option Value)} {oc1 kV1 dc1 pm1 cd1 ct1 : Value} {f2 : Addr} {od2 an2 : Option Addr} {sl2 : Array (Option Value)} {oc2 kV2 dc2 pm2 cd2 ct2 : Value} {f3 : Addr} {od3 an3 : Option Addr} {sl3 : Array (Option Value)} {oc3 kV3 dc3 pm3 cd3 ct3 : Value} {f4 : Addr} {od4 an4 : Option Addr} {sl4 : Array (Option Value)} {oc4 kV4 dc4 pm4 cd4 ct4 : Value} {f5 : Addr} {od5 an5 : Option Addr} {sl5 : Array (Option Value)} {oc5 kV5 dc5 pm5 cd5 ct5 : Value} {f6 : Addr} {od6 an6 : Option Addr} {sl6 : Array (Option Value)} {oc6 kV6 dc6 pm6 cd6 ct6 : Value} {f7 : Addr} {od7 an7 : Option Addr} {sl7 : Array (Option Value)} {oc7 kV7 dc7 pm7 cd7 ct7 : Value} {f8 : Addr} {od8 an8 : Option Addr} {sl8 : Array (Option Value)} {oc8 kV8 dc8 pm8 cd8 ct8 : Value} {f9 : Addr} {od9 an9 : Option Addr} {sl9 : Array (Option Value)} {oc9 kV9 dc9 pm9 cd9 ct9 : Value} {f10 : Addr} {od10 an10 : Option Addr} {sl10 : Array (Option Value)} {oc10 kV10 dc10 pm10 cd10 ct10 : Value} {f11 : Addr} {od11 an11 : Option Addr} {sl11 : Array (Option Value)} {oc11 kV11 dc11 pm11 cd11 ct11 : Value} {f12 : Addr} {od12 an12 : Option Addr} {sl12 : Array (Option Value)} {oc12 kV12 dc12 pm12 cd12 ct12 : Value} {f13 : Addr} {od13 an13 : Option Addr} {sl13 : Array (Option Value)} {oc13 kV13 dc13 pm13 cd13 ct13 : Value} {f14 : Addr} {od14 an14 : Option Addr} {sl14 : Array (Option Value)} {oc14 kV14 dc14 pm14 cd14 ct14 : Value} {f15 : Addr} {od15 an15 : Option Addr} {sl15 : Array (Option Value)} {oc15 kV15 dc15 pm15 cd15 ct15 : Value} {f16 : Addr} {od16 an16 : Option Addr} {sl16 : Array (Option Value)} {oc16 kV16 dc16 pm16 cd16 ct16 : Value} {f17 : Addr} {od17 an17 : Option Addr} {sl17 : Array (Option Value)} {oc17 kV17 dc17 pm17 cd17 ct17 : Value} {f18 : Addr} {od18 an18 : Option Addr} {sl18 : Array (Option Value)} {oc18 kV18 dc18 pm18 cd18 ct18 : Value} {f19 : Addr} {od19 an19 : Option Addr} {sl19 : Array (Option Value)} {oc19 kV19 dc19 pm19 cd19 ct19 : Value} {f20 : Addr} {od20 an20 : Option Addr} {sl20 : Array (Option Value)} {oc20 kV20 dc20 pm20 cd20 ct20 : Value} {f21 : Addr} {od21 an21 : Option Addr} {sl21 : Array (Option Value)} {oc21 kV21 dc21 pm21 cd21 ct21 : Value} {f22 : Addr} {od22 an22 : Option Addr} {sl22 : Array (Option Value)} {oc22 kV22 dc22 pm22 cd22 ct22 : Value} {f23 : Addr} {od23 an23 : Option Addr} {sl23 : Array (Option Value)} {oc23 kV23 dc23 pm23 cd23 ct23 : Value} {f24 : Addr} {od24 an24 : Option Addr} {sl24 : Array (Option Value)} {oc24 kV24 dc24 pm24 cd24 ct24 : Value} {f25 : Addr} {od25 an25 : Option Addr} {sl25 : Array (Option Value)} {oc25 kV25 dc25 pm25 cd25 ct25 : Value} {f26 : Addr} {od26 an26 : Option Addr} {sl26 : Array (Option Value)} {oc26 kV26 dc26 pm26 cd26 ct26 : Value} {f27 : Addr} {od27 an27 : Option Addr} {sl27 : Array (Option Value)} {oc27 kV27 dc27 pm27 cd27 ct27 : Value} {t_LETTERS t_MOST_FOLK t_MOST_LETS : Tok}
  (a0 : PySem.W.nsIn K mainGlobals "is_from" = some (some (.ref f0))) (l0 : K.lookup f0 = some ⟨oc0, od0, .func (PySem.W.fnOf "is_from" "is_from" (defArgs (top 8)) (defBody (top 8)) (defScope (top 8)) .none kV0 dc0 pm0 an0 cd0 ct0), sl0⟩) (c0 : PySem.W.codeIn K cd0 "is_from" = true) (k0 : PySem.W.keepIn K (.ref f0) = true)
  (a1 : PySem.W.nsIn K mainGlobals "is_name" = some (some (.ref f1))) (l1 : K.lookup f1 = some ⟨oc1, od1, .func (PySem.W.fnOf "is_name" "is_name" (defArgs (top 9)) (defBody (top 9)) (defScope (top 9)) .none kV1 dc1 pm1 an1 cd1 ct1), sl1⟩) (c1 : PySem.W.codeIn K cd1 "is_name" = true) (k1 : PySem.W.keepIn K (.ref f1) = true)
  (a2 : PySem.W.nsIn K mainGlobals "are_names" = some (some (.ref f2))) (l2 : K.lookup f2 = some ⟨oc2, od2, .func (PySem.W.fnOf "are_names" "are_names" (defArgs (top 10)) (defBody (top 10)) (defScope (top 10)) .none kV2 dc2 pm2 an2 cd2 ct2), sl2⟩) (c2 : PySem.W.codeIn K cd2 "are_names" = true) (k2 : PySem.W.keepIn K (.ref f2) = true)
  (a3 : PySem.W.nsIn K mainGlobals "is_line" = some (some (.ref f3))) (l3 : K.lookup f3 = some ⟨oc3, od3, .func (PySem.W.fnOf "is_line" "is_line" (defArgs (top 11)) (defBody (top 11)) (defScope (top 11)) .none kV3 dc3 pm3 an3 cd3 ct3), sl3⟩) (c3 : PySem.W.codeIn K cd3 "is_line" = true) (k3 : PySem.W.keepIn K (.ref f3) = true)
  (a4 : PySem.W.nsIn K mainGlobals "need_line" = some (some (.ref f4))) (l4 : K.lookup f4 = some ⟨oc4, od4, .func (PySem.W.fnOf "need_line" "need_line" (defArgs (top 12)) (defBody (top 12)) (defScope (top 12)) .none kV4 dc4 pm4 an4 cd4 ct4), sl4⟩) (c4 : PySem.W.codeIn K cd4 "need_line" = true) (k4 : PySem.W.keepIn K (.ref f4) = true)
  (a5 : PySem.W.nsIn K mainGlobals "names_of" = some (some (.ref f5))) (l5 : K.lookup f5 = some ⟨oc5, od5, .func (PySem.W.fnOf "names_of" "names_of" (defArgs (top 13)) (defBody (top 13)) (defScope (top 13)) .none kV5 dc5 pm5 an5 cd5 ct5), sl5⟩) (c5 : PySem.W.codeIn K cd5 "names_of" = true) (k5 : PySem.W.keepIn K (.ref f5) = true)
  (a6 : PySem.W.nsIn K mainGlobals "need_name" = some (some (.ref f6))) (l6 : K.lookup f6 = some ⟨oc6, od6, .func (PySem.W.fnOf "need_name" "need_name" (defArgs (top 14)) (defBody (top 14)) (defScope (top 14)) .none kV6 dc6 pm6 an6 cd6 ct6), sl6⟩) (c6 : PySem.W.codeIn K cd6 "need_name" = true) (k6 : PySem.W.keepIn K (.ref f6) = true)
  (a7 : PySem.W.nsIn K mainGlobals "caps_of" = some (some (.ref f7))) (l7 : K.lookup f7 = some ⟨oc7, od7, .func (PySem.W.fnOf "caps_of" "caps_of" (defArgs (top 16)) (defBody (top 16)) (defScope (top 16)) .none kV7 dc7 pm7 an7 cd7 ct7), sl7⟩) (c7 : PySem.W.codeIn K cd7 "caps_of" = true) (k7 : PySem.W.keepIn K (.ref f7) = true)
  (a8 : PySem.W.nsIn K mainGlobals "product" = some (some (.ref f8))) (l8 : K.lookup f8 = some ⟨oc8, od8, .func (PySem.W.fnOf "product" "product" (defArgs (top 17)) (defBody (top 17)) (defScope (top 17)) .none kV8 dc8 pm8 an8 cd8 ct8), sl8⟩) (c8 : PySem.W.codeIn K cd8 "product" = true) (k8 : PySem.W.keepIn K (.ref f8) = true)
  (a9 : PySem.W.nsIn K mainGlobals "how_many" = some (some (.ref f9))) (l9 : K.lookup f9 = some ⟨oc9, od9, .func (PySem.W.fnOf "how_many" "how_many" (defArgs (top 18)) (defBody (top 18)) (defScope (top 18)) .none kV9 dc9 pm9 an9 cd9 ct9), sl9⟩) (c9 : PySem.W.codeIn K cd9 "how_many" = true) (k9 : PySem.W.keepIn K (.ref f9) = true)
  (a10 : PySem.W.nsIn K mainGlobals "ways_at" = some (some (.ref f10))) (l10 : K.lookup f10 = some ⟨oc10, od10, .func (PySem.W.fnOf "ways_at" "ways_at" (defArgs (top 19)) (defBody (top 19)) (defScope (top 19)) .none kV10 dc10 pm10 an10 cd10 ct10), sl10⟩) (c10 : PySem.W.codeIn K cd10 "ways_at" = true) (k10 : PySem.W.keepIn K (.ref f10) = true)
  (a11 : PySem.W.nsIn K mainGlobals "at_places" = some (some (.ref f11))) (l11 : K.lookup f11 = some ⟨oc11, od11, .func (PySem.W.fnOf "at_places" "at_places" (defArgs (top 20)) (defBody (top 20)) (defScope (top 20)) .none kV11 dc11 pm11 an11 cd11 ct11), sl11⟩) (c11 : PySem.W.codeIn K cd11 "at_places" = true) (k11 : PySem.W.keepIn K (.ref f11) = true)
  (a12 : PySem.W.nsIn K mainGlobals "ahead_in" = some (some (.ref f12))) (l12 : K.lookup f12 = some ⟨oc12, od12, .func (PySem.W.fnOf "ahead_in" "ahead_in" (defArgs (top 21)) (defBody (top 21)) (defScope (top 21)) .none kV12 dc12 pm12 an12 cd12 ct12), sl12⟩) (c12 : PySem.W.codeIn K cd12 "ahead_in" = true) (k12 : PySem.W.keepIn K (.ref f12) = true)
  (a13 : PySem.W.nsIn K mainGlobals "order_by" = some (some (.ref f13))) (l13 : K.lookup f13 = some ⟨oc13, od13, .func (PySem.W.fnOf "order_by" "order_by" (defArgs (top 22)) (defBody (top 22)) (defScope (top 22)) .none kV13 dc13 pm13 an13 cd13 ct13), sl13⟩) (c13 : PySem.W.codeIn K cd13 "order_by" = true) (k13 : PySem.W.keepIn K (.ref f13) = true)
  (a14 : PySem.W.nsIn K mainGlobals "foremost" = some (some (.ref f14))) (l14 : K.lookup f14 = some ⟨oc14, od14, .func (PySem.W.fnOf "foremost" "foremost" (defArgs (top 23)) (defBody (top 23)) (defScope (top 23)) .none kV14 dc14 pm14 an14 cd14 ct14), sl14⟩) (c14 : PySem.W.codeIn K cd14 "foremost" = true) (k14 : PySem.W.keepIn K (.ref f14) = true)
  (a15 : PySem.W.nsIn K mainGlobals "ends" = some (some (.ref f15))) (l15 : K.lookup f15 = some ⟨oc15, od15, .func (PySem.W.fnOf "ends" "ends" (defArgs (top 24)) (defBody (top 24)) (defScope (top 24)) .none kV15 dc15 pm15 an15 cd15 ct15), sl15⟩) (c15 : PySem.W.codeIn K cd15 "ends" = true) (k15 : PySem.W.keepIn K (.ref f15) = true)
  (a16 : PySem.W.nsIn K mainGlobals "_law_deck" = some (some (.ref f16))) (l16 : K.lookup f16 = some ⟨oc16, od16, .func (PySem.W.fnOf "_law_deck" "_law_deck" (defArgs (top 26)) (defBody (top 26)) (defScope (top 26)) .none kV16 dc16 pm16 an16 cd16 ct16), sl16⟩) (c16 : PySem.W.codeIn K cd16 "_law_deck" = true) (k16 : PySem.W.keepIn K (.ref f16) = true)
  (a17 : PySem.W.nsIn K mainGlobals "_law_pick" = some (some (.ref f17))) (l17 : K.lookup f17 = some ⟨oc17, od17, .func (PySem.W.fnOf "_law_pick" "_law_pick" (defArgs (top 27)) (defBody (top 27)) (defScope (top 27)) .none kV17 dc17 pm17 an17 cd17 ct17), sl17⟩) (c17 : PySem.W.codeIn K cd17 "_law_pick" = true) (k17 : PySem.W.keepIn K (.ref f17) = true)
  (a18 : PySem.W.nsIn K mainGlobals "_law_one" = some (some (.ref f18))) (l18 : K.lookup f18 = some ⟨oc18, od18, .func (PySem.W.fnOf "_law_one" "_law_one" (defArgs (top 28)) (defBody (top 28)) (defScope (top 28)) .none kV18 dc18 pm18 an18 cd18 ct18), sl18⟩) (c18 : PySem.W.codeIn K cd18 "_law_one" = true) (k18 : PySem.W.keepIn K (.ref f18) = true)
  (a19 : PySem.W.nsIn K mainGlobals "_law_sort" = some (some (.ref f19))) (l19 : K.lookup f19 = some ⟨oc19, od19, .func (PySem.W.fnOf "_law_sort" "_law_sort" (defArgs (top 29)) (defBody (top 29)) (defScope (top 29)) .none kV19 dc19 pm19 an19 cd19 ct19), sl19⟩) (c19 : PySem.W.codeIn K cd19 "_law_sort" = true) (k19 : PySem.W.keepIn K (.ref f19) = true)
  (a20 : PySem.W.nsIn K mainGlobals "_law_same" = some (some (.ref f20))) (l20 : K.lookup f20 = some ⟨oc20, od20, .func (PySem.W.fnOf "_law_same" "_law_same" (defArgs (top 30)) (defBody (top 30)) (defScope (top 30)) .none kV20 dc20 pm20 an20 cd20 ct20), sl20⟩) (c20 : PySem.W.codeIn K cd20 "_law_same" = true) (k20 : PySem.W.keepIn K (.ref f20) = true)
  (a21 : PySem.W.nsIn K mainGlobals "_law_drawn" = some (some (.ref f21))) (l21 : K.lookup f21 = some ⟨oc21, od21, .func (PySem.W.fnOf "_law_drawn" "_law_drawn" (defArgs (top 32)) (defBody (top 32)) (defScope (top 32)) .none kV21 dc21 pm21 an21 cd21 ct21), sl21⟩) (c21 : PySem.W.codeIn K cd21 "_law_drawn" = true) (k21 : PySem.W.keepIn K (.ref f21) = true)
  (a22 : PySem.W.nsIn K mainGlobals "_law_names" = some (some (.ref f22))) (l22 : K.lookup f22 = some ⟨oc22, od22, .func (PySem.W.fnOf "_law_names" "_law_names" (defArgs (top 31)) (defBody (top 31)) (defScope (top 31)) .none kV22 dc22 pm22 an22 cd22 ct22), sl22⟩) (c22 : PySem.W.codeIn K cd22 "_law_names" = true) (k22 : PySem.W.keepIn K (.ref f22) = true)
  (a23 : PySem.W.nsIn K mainGlobals "_law_line" = some (some (.ref f23))) (l23 : K.lookup f23 = some ⟨oc23, od23, .func (PySem.W.fnOf "_law_line" "_law_line" (defArgs (top 33)) (defBody (top 33)) (defScope (top 33)) .none kV23 dc23 pm23 an23 cd23 ct23), sl23⟩) (c23 : PySem.W.codeIn K cd23 "_law_line" = true) (k23 : PySem.W.keepIn K (.ref f23) = true)
  (a24 : PySem.W.nsIn K mainGlobals "_law_passed" = some (some (.ref f24))) (l24 : K.lookup f24 = some ⟨oc24, od24, .func (PySem.W.fnOf "_law_passed" "_law_passed" (defArgs (top 34)) (defBody (top 34)) (defScope (top 34)) .none kV24 dc24 pm24 an24 cd24 ct24), sl24⟩) (c24 : PySem.W.codeIn K cd24 "_law_passed" = true) (k24 : PySem.W.keepIn K (.ref f24) = true)
  (a25 : PySem.W.nsIn K mainGlobals "_law_comes" = some (some (.ref f25))) (l25 : K.lookup f25 = some ⟨oc25, od25, .func (PySem.W.fnOf "_law_comes" "_law_comes" (defArgs (top 35)) (defBody (top 35)) (defScope (top 35)) .none kV25 dc25 pm25 an25 cd25 ct25), sl25⟩) (c25 : PySem.W.codeIn K cd25 "_law_comes" = true) (k25 : PySem.W.keepIn K (.ref f25) = true)
  (a26 : PySem.W.nsIn K mainGlobals "_law_pairs_right" = some (some (.ref f26))) (l26 : K.lookup f26 = some ⟨oc26, od26, .func (PySem.W.fnOf "_law_pairs_right" "_law_pairs_right" (defArgs (top 36)) (defBody (top 36)) (defScope (top 36)) .none kV26 dc26 pm26 an26 cd26 ct26), sl26⟩) (c26 : PySem.W.codeIn K cd26 "_law_pairs_right" = true) (k26 : PySem.W.keepIn K (.ref f26) = true)
  (a27 : PySem.W.nsIn K mainGlobals "law" = some (some (.ref f27))) (l27 : K.lookup f27 = some ⟨oc27, od27, .func (PySem.W.fnOf "law" "law" (defArgs (top 37)) (defBody (top 37)) (defScope (top 37)) .none kV27 dc27 pm27 an27 cd27 ct27), sl27⟩) (c27 : PySem.W.codeIn K cd27 "law" = true) (k27 : PySem.W.keepIn K (.ref f27) = true)
  (z_all : PySem.W.nsIn K mainGlobals "all" = some none)
  (z_bool : PySem.W.nsIn K mainGlobals "bool" = some none)
  (z_enumerate : PySem.W.nsIn K mainGlobals "enumerate" = some none)
  (z_int : PySem.W.nsIn K mainGlobals "int" = some none)
  (z_isinstance : PySem.W.nsIn K mainGlobals "isinstance" = some none)
  (z_len : PySem.W.nsIn K mainGlobals "len" = some none)
  (z_list : PySem.W.nsIn K mainGlobals "list" = some none)
  (z_max : PySem.W.nsIn K mainGlobals "max" = some none)
  (z_min : PySem.W.nsIn K mainGlobals "min" = some none)
  (z_range : PySem.W.nsIn K mainGlobals "range" = some none)
  (z_sorted : PySem.W.nsIn K mainGlobals "sorted" = some none)
  (z_str : PySem.W.nsIn K mainGlobals "str" = some none)
  (z_sum : PySem.W.nsIn K mainGlobals "sum" = some none)
  (z_tuple : PySem.W.nsIn K mainGlobals "tuple" = some none)
  (y_LETTERS : PySem.W.nsIn K mainGlobals "LETTERS" = some (some (.str "abcdefghijklmnopqrstuvwxyz" t_LETTERS)))
  (y_MOST_FOLK : PySem.W.nsIn K mainGlobals "MOST_FOLK" = some (some (.int 30 t_MOST_FOLK)))
  (y_MOST_LETS : PySem.W.nsIn K mainGlobals "MOST_LETS" = some (some (.int 99 t_MOST_LETS))) :
    ∃ fd : FuncData, (∀ (s : Shared) (v : Value), BindsTo s fd ⟨[v], []⟩ [("script", v)]) ∧ ∀ base : Heap, K.In base → base.Ns mainGlobals mg → FnOk l.prog w K mg base CX0 30 fa fd ["script"] (spLaw K) := by
  have e := hfa.symm.trans (PySem.W.mg_of X G a27)
  cases e
  have g : Gm mg t_LETTERS t_MOST_FOLK t_MOST_LETS := ⟨PySem.W.mg_none_of X G z_all, PySem.W.mg_none_of X G z_bool, PySem.W.mg_none_of X G z_enumerate, PySem.W.mg_none_of X G z_int, PySem.W.mg_none_of X G z_isinstance, PySem.W.mg_none_of X G z_len, PySem.W.mg_none_of X G z_list, PySem.W.mg_none_of X G z_max, PySem.W.mg_none_of X G z_min, PySem.W.mg_none_of X G z_range, PySem.W.mg_none_of X G z_sorted, PySem.W.mg_none_of X G z_str, PySem.W.mg_none_of X G z_sum, PySem.W.mg_none_of X G z_tuple, PySem.W.mg_of X G y_LETTERS, PySem.W.mg_of X G y_MOST_FOLK, PySem.W.mg_of X G y_MOST_LETS⟩
  refine ⟨PySem.W.fnOf "law" "law" (defArgs (top 37)) (defBody (top 37)) (defScope (top 37)) .none kV27 dc27 pm27 an27 cd27 ct27, fun s v => .of_eq rfl, fun base _ _ => ?_⟩
  have F0 := fun_mk (st := top 8) l0 c0 k0
  have B0 := F0.binds (ps := ["thing", "low", "high"]) fun _ _ _ _ _ _ us hl => match us, hl with | [_, _, _], _ => rfl
  have h_is_from := f_is_from (P := l.prog) (w := w) (base := base) g  F0 B0 (PySem.W.mg_of X G a0)
  have F1 := fun_mk (st := top 9) l1 c1 k1
  have B1 := F1.binds (ps := ["thing"]) fun _ _ _ _ _ _ us hl => match us, hl with | [_], _ => rfl
  have h_is_name := f_is_name (P := l.prog) (w := w) (base := base) g  F1 B1 (PySem.W.mg_of X G a1)
  have F2 := fun_mk (st := top 10) l2 c2 k2
  have B2 := F2.binds (ps := ["thing"]) fun _ _ _ _ _ _ us hl => match us, hl with | [_], _ => rfl
  have h_are_names := f_are_names (P := l.prog) (w := w) (base := base) g h_is_name F2 B2 (PySem.W.mg_of X G a2)
  have F3 := fun_mk (st := top 11) l3 c3 k3
  have B3 := F3.binds (ps := ["thing"]) fun _ _ _ _ _ _ us hl => match us, hl with | [_], _ => rfl
  have h_is_line := f_is_line (P := l.prog) (w := w) (base := base) g h_are_names h_is_from F3 B3 (PySem.W.mg_of X G a3)
  have F4 := fun_mk (st := top 12) l4 c4 k4
  have B4 := F4.binds (ps := ["line"]) fun _ _ _ _ _ _ us hl => match us, hl with | [_], _ => rfl
  have h_need_line := f_need_line (P := l.prog) (w := w) (base := base) g h_is_line F4 B4 (PySem.W.mg_of X G a4)
  have F5 := fun_mk (st := top 13) l5 c5 k5
  have B5 := F5.binds (ps := ["line"]) fun _ _ _ _ _ _ us hl => match us, hl with | [_], _ => rfl
  have h_names_of := f_names_of (P := l.prog) (w := w) (base := base) g  F5 B5 (PySem.W.mg_of X G a5)
  have F6 := fun_mk (st := top 14) l6 c6 k6
  have B6 := F6.binds (ps := ["line", "name"]) fun _ _ _ _ _ _ us hl => match us, hl with | [_, _], _ => rfl
  have h_need_name := f_need_name (P := l.prog) (w := w) (base := base) g h_need_line h_names_of F6 B6 (PySem.W.mg_of X G a6)
  have F7 := fun_mk (st := top 16) l7 c7 k7
  have B7 := F7.binds (ps := ["line"]) fun _ _ _ _ _ _ us hl => match us, hl with | [_], _ => rfl
  have h_caps_of := f_caps_of (P := l.prog) (w := w) (base := base) g  F7 B7 (PySem.W.mg_of X G a7)
  have F8 := fun_mk (st := top 17) l8 c8 k8
  have B8 := F8.binds (ps := ["numbers"]) fun _ _ _ _ _ _ us hl => match us, hl with | [_], _ => rfl
  have h_product := f_product (P := l.prog) (w := w) (base := base) g  F8 B8 (PySem.W.mg_of X G a8)
  have F9 := fun_mk (st := top 18) l9 c9 k9
  have B9 := F9.binds (ps := ["line"]) fun _ _ _ _ _ _ us hl => match us, hl with | [_], _ => rfl
  have h_how_many := f_how_many (P := l.prog) (w := w) (base := base) g h_need_line h_product h_caps_of F9 B9 (PySem.W.mg_of X G a9)
  have F10 := fun_mk (st := top 19) l10 c10 k10
  have B10 := F10.binds (ps := ["caps", "at", "first"]) fun _ _ _ _ _ _ us hl => match us, hl with | [_, _, _], _ => rfl
  have h_ways_at := f_ways_at (P := l.prog) (w := w) (base := base) g h_product F10 B10 (PySem.W.mg_of X G a10)
  have F11 := fun_mk (st := top 20) l11 c11 k11
  have B11 := F11.binds (ps := ["line", "name"]) fun _ _ _ _ _ _ us hl => match us, hl with | [_, _], _ => rfl
  have h_at_places := f_at_places (P := l.prog) (w := w) (base := base) g h_need_name h_ways_at h_caps_of h_names_of F11 B11 (PySem.W.mg_of X G a11)
  have F12 := fun_mk (st := top 21) l12 c12 k12
  have B12 := F12.binds (ps := ["line", "one", "other"]) fun _ _ _ _ _ _ us hl => match us, hl with | [_, _, _], _ => rfl
  have h_ahead_in := f_ahead_in (P := l.prog) (w := w) (base := base) g h_need_name h_caps_of h_ways_at h_product h_names_of F12 B12 (PySem.W.mg_of X G a12)
  have F13 := fun_mk (st := top 22) l13 c13 k13
  have B13 := F13.binds (ps := ["names", "passed"]) fun _ _ _ _ _ _ us hl => match us, hl with | [_, _], _ => rfl
  have h_order_by := f_order_by (P := l.prog) (w := w) (base := base) g  F13 B13 (PySem.W.mg_of X G a13)
  have F14 := fun_mk (st := top 23) l14 c14 k14
  have B14 := F14.binds (ps := ["caps", "at"]) fun _ _ _ _ _ _ us hl => match us, hl with | [_, _], _ => rfl
  have h_foremost := f_foremost (P := l.prog) (w := w) (base := base) g  F14 B14 (PySem.W.mg_of X G a14)
  have F15 := fun_mk (st := top 24) l15 c15 k15
  have B15 := F15.binds (ps := ["line", "name"]) fun _ _ _ _ _ _ us hl => match us, hl with | [_, _], _ => rfl
  have h_ends := f_ends (P := l.prog) (w := w) (base := base) g h_need_name h_names_of h_caps_of h_order_by h_foremost F15 B15 (PySem.W.mg_of X G a15)
  have F16 := fun_mk (st := top 26) l16 c16 k16
  have B16 := F16.binds (ps := ["cell", "turn"]) fun _ _ _ _ _ _ us hl => match us, hl with | [_, _], _ => rfl
  have h__law_deck := f__law_deck (P := l.prog) (w := w) (base := base) g  F16 B16 (PySem.W.mg_of X G a16)
  have F17 := fun_mk (st := top 27) l17 c17 k17
  have B17 := F17.binds (ps := ["deck", "size"]) fun _ _ _ _ _ _ us hl => match us, hl with | [_, _], _ => rfl
  have h__law_pick := f__law_pick (P := l.prog) (w := w) (base := base) g  F17 B17 (PySem.W.mg_of X G a17)
  have F18 := fun_mk (st := top 28) l18 c18 k18
  have B18 := F18.binds (ps := ["deck", "some"]) fun _ _ _ _ _ _ us hl => match us, hl with | [_, _], _ => rfl
  have h__law_one := f__law_one (P := l.prog) (w := w) (base := base) g h__law_pick F18 B18 (PySem.W.mg_of X G a18)
  have F19 := fun_mk (st := top 29) l19 c19 k19
  have B19 := F19.binds (ps := ["thing"]) fun _ _ _ _ _ _ us hl => match us, hl with | [_], _ => rfl
  have h__law_sort := f__law_sort (P := l.prog) (w := w) (base := base) g  F19 B19 (PySem.W.mg_of X G a19)
  have F20 := fun_mk (st := top 30) l20 c20 k20
  have B20 := F20.binds (ps := ["told", "due"]) fun _ _ _ _ _ _ us hl => match us, hl with | [_, _], _ => rfl
  have h__law_same := f__law_same (P := l.prog) (w := w) (base := base) g h__law_sort F20 B20 (PySem.W.mg_of X G a20) 3
  have F21 := fun_mk (st := top 32) l21 c21 k21
  have B21 := F21.binds (ps := ["deck", "left"]) fun _ _ _ _ _ _ us hl => match us, hl with | [_, _], _ => rfl
  have h__law_drawn := f__law_drawn (P := l.prog) (w := w) (base := base) g h__law_pick F21 B21 (PySem.W.mg_of X G a21)
  have F22 := fun_mk (st := top 31) l22 c22 k22
  have B22 := F22.binds (ps := ["deck", "many"]) fun _ _ _ _ _ _ us hl => match us, hl with | [_, _], _ => rfl
  have h__law_names := f__law_names (P := l.prog) (w := w) (base := base) g h__law_drawn F22 B22 (PySem.W.mg_of X G a22)
  have F23 := fun_mk (st := top 33) l23 c23 k23
  have B23 := F23.binds (ps := ["deck", "at_most", "lets_so"]) fun _ _ _ _ _ _ us hl => match us, hl with | [_, _, _], _ => rfl
  have h__law_line := f__law_line (P := l.prog) (w := w) (base := base) g h__law_names h__law_pick h__law_one F23 B23 (PySem.W.mg_of X G a23)
  have F24 := fun_mk (st := top 34) l24 c24 k24
  have B24 := F24.binds (ps := ["names", "order"]) fun _ _ _ _ _ _ us hl => match us, hl with | [_, _], _ => rfl
  have h__law_passed := f__law_passed (P := l.prog) (w := w) (base := base) g  F24 B24 (PySem.W.mg_of X G a24)
  have F25 := fun_mk (st := top 35) l25 c25 k25
  have B25 := F25.binds (ps := ["line", "order"]) fun _ _ _ _ _ _ us hl => match us, hl with | [_, _], _ => rfl
  have h__law_comes := f__law_comes (P := l.prog) (w := w) (base := base) g h__law_passed F25 B25 (PySem.W.mg_of X G a25)
  have F26 := fun_mk (st := top 36) l26 c26 k26
  have B26 := F26.binds (ps := ["deck", "line", "names", "many"]) fun _ _ _ _ _ _ us hl => match us, hl with | [_, _, _, _], _ => rfl
  have h__law_pairs_right := f__law_pairs_right (P := l.prog) (w := w) (base := base) g h__law_one h_ahead_in h_at_places F26 B26 (PySem.W.mg_of X G a26)
  have F27 := fun_mk (st := top 37) l27 c27 k27
  exact (ok_law (P := l.prog) (w := w) (base := base) g h__law_deck h__law_line h__law_one h__law_same h_at_places h_ends h__law_pairs_right h_how_many h__law_comes F27).mono (by decide) |>.imp law_imp
theorem walk {l : PySem.W.OpenLaw} {q : Program} {loose : List Str} {XP : (Str → Option Value) → Heap → Prop} {YP : World → Heap → Prop} {d : DefRec} {K : Params → PySem.W.Frag} (hn : l.most = some 63) (hdf : d.params.defaults = [])
    (hY : ∀ (w : World) (h : Heap), YP w h → (K w.params).In h)
    (F : ∀ (w : World) (mg : Str → Option Value) (fa : Addr) (h : Heap), (K w.params).In h → h.Ns mainGlobals mg → mg d.name = some (.ref fa) →
      ∃ fd : FuncData, (∀ (s : Shared) (u : Value), BindsTo s fd ⟨[u], []⟩ [("script", u)]) ∧ ∀ base : Heap, (K w.params).In base → base.Ns mainGlobals mg → FnOk l.prog w (K w.params) mg base CX0 30 fa fd ["script"] (spLaw (K w.params))) :
    PySem.W.WalkO q loose XP YP l.row.toRowW d [] (fun f vs => PySem.call f vs) :=
  L2.walk_of (n := 63) (k := 30) (x := "script") (CX := fun _ => CX0) (sp := fun w => spLaw (K w.params)) hn (by decide) hdf ⟨rfl, by decide, by decide⟩ hY F (fun w H a ns hl hO hS => ⟨a, ns, rfl, (by
    rcases hS with (hS | ⟨o, hS⟩) | hS
    · rcases hO a with z | ⟨o, xs, z⟩
      · rw [z] at hS; cases hS
      · rw [z] at hS; cases hS
    · exact .inl ⟨o, hS⟩
    · exact .inr hS), hl, fun _ => rfl⟩) fun _ _ _ _ _ z => z
end My
open PySem PySem.W PyProof.Rows in
theorem PySem.Challenge.cw_letpass_k06_whole_counts_of_great_lines_holds : PySem.Challenge.rw_letpass_k06_whole_counts_of_great_lines.Holds := by
  w_on; o_law; k_head; (case hw => w_witness2)
  k_fill
  refine My.walk (l := PySem.Challenge.rw_letpass_k06_whole_counts_of_great_lines) rfl rfl (fun w h Y => PySem.W.kIn_of Y) ?F
  case F =>
    intro w mg fa h KX G hmg
    refine' My.all_mk KX G hmg ?a0 ?l0 ?c0 ?k0 ?a1 ?l1 ?c1 ?k1 ?a2 ?l2 ?c2 ?k2 ?a3 ?l3 ?c3 ?k3 ?a4 ?l4 ?c4 ?k4 ?a5 ?l5 ?c5 ?k5 ?a6 ?l6 ?c6 ?k6 ?a7 ?l7 ?c7 ?k7 ?a8 ?l8 ?c8 ?k8 ?a9 ?l9 ?c9 ?k9 ?a10 ?l10 ?c10 ?k10 ?a11 ?l11 ?c11 ?k11 ?a12 ?l12 ?c12 ?k12 ?a13 ?l13 ?c13 ?k13 ?a14 ?l14 ?c14 ?k14 ?a15 ?l15 ?c15 ?k15 ?a16 ?l16 ?c16 ?k16 ?a17 ?l17 ?c17 ?k17 ?a18 ?l18 ?c18 ?k18 ?a19 ?l19 ?c19 ?k19 ?a20 ?l20 ?c20 ?k20 ?a21 ?l21 ?c21 ?k21 ?a22 ?l22 ?c22 ?k22 ?a23 ?l23 ?c23 ?k23 ?a24 ?l24 ?c24 ?k24 ?a25 ?l25 ?c25 ?k25 ?a26 ?l26 ?c26 ?k26 ?a27 ?l27 ?c27 ?k27 ?z_all ?z_bool ?z_enumerate ?z_int ?z_isinstance ?z_len ?z_list ?z_max ?z_min ?z_range ?z_sorted ?z_str ?z_sum ?z_tuple ?y_LETTERS ?y_MOST_FOLK ?y_MOST_LETS
    (case a0 => k_is)
    (case l0 => k_is)
    (case c0 => k_is)
    (case k0 => k_is)
    (case a1 => k_is)
    (case l1 => k_is)
    (case c1 => k_is)
    (case k1 => k_is)
    (case a2 => k_is)
    (case l2 => k_is)
    (case c2 => k_is)
    (case k2 => k_is)
    (case a3 => k_is)
    (case l3 => k_is)
    (case c3 => k_is)
    (case k3 => k_is)
    (case a4 => k_is)
    (case l4 => k_is)
    (case c4 => k_is)
    (case k4 => k_is)
    (case a5 => k_is)
    (case l5 => k_is)
    (case c5 => k_is)
    (case k5 => k_is)
    (case a6 => k_is)
    (case l6 => k_is)
    (case c6 => k_is)
    (case k6 => k_is)
    (case a7 => k_is)
    (case l7 => k_is)
    (case c7 => k_is)
    (case k7 => k_is)
    (case a8 => k_is)
    (case l8 => k_is)
    (case c8 => k_is)
    (case k8 => k_is)
    (case a9 => k_is)
    (case l9 => k_is)
    (case c9 => k_is)
    (case k9 => k_is)
    (case a10 => k_is)
    (case l10 => k_is)
    (case c10 => k_is)
    (case k10 => k_is)
    (case a11 => k_is)
    (case l11 => k_is)
    (case c11 => k_is)
    (case k11 => k_is)
    (case a12 => k_is)
    (case l12 => k_is)
    (case c12 => k_is)
    (case k12 => k_is)
    (case a13 => k_is)
    (case l13 => k_is)
    (case c13 => k_is)
    (case k13 => k_is)
    (case a14 => k_is)
    (case l14 => k_is)
    (case c14 => k_is)
    (case k14 => k_is)
    (case a15 => k_is)
    (case l15 => k_is)
    (case c15 => k_is)
    (case k15 => k_is)
    (case a16 => k_is)
    (case l16 => k_is)
    (case c16 => k_is)
    (case k16 => k_is)
    (case a17 => k_is)
    (case l17 => k_is)
    (case c17 => k_is)
    (case k17 => k_is)
    (case a18 => k_is)
    (case l18 => k_is)
    (case c18 => k_is)
    (case k18 => k_is)
    (case a19 => k_is)
    (case l19 => k_is)
    (case c19 => k_is)
    (case k19 => k_is)
    (case a20 => k_is)
    (case l20 => k_is)
    (case c20 => k_is)
    (case k20 => k_is)
    (case a21 => k_is)
    (case l21 => k_is)
    (case c21 => k_is)
    (case k21 => k_is)
    (case a22 => k_is)
    (case l22 => k_is)
    (case c22 => k_is)
    (case k22 => k_is)
    (case a23 => k_is)
    (case l23 => k_is)
    (case c23 => k_is)
    (case k23 => k_is)
    (case a24 => k_is)
    (case l24 => k_is)
    (case c24 => k_is)
    (case k24 => k_is)
    (case a25 => k_is)
    (case l25 => k_is)
    (case c25 => k_is)
    (case k25 => k_is)
    (case a26 => k_is)
    (case l26 => k_is)
    (case c26 => k_is)
    (case k26 => k_is)
    (case a27 => k_is)
    (case l27 => k_is)
    (case c27 => k_is)
    (case k27 => k_is)
    (case z_all => k_is)
    (case z_bool => k_is)
    (case z_enumerate => k_is)
    (case z_int => k_is)
    (case z_isinstance => k_is)
    (case z_len => k_is)
    (case z_list => k_is)
    (case z_max => k_is)
    (case z_min => k_is)
    (case z_range => k_is)
    (case z_sorted => k_is)
    (case z_str => k_is)
    (case z_sum => k_is)
    (case z_tuple => k_is)
    (case y_LETTERS => k_is)
    (case y_MOST_FOLK => k_is)
    (case y_MOST_LETS => k_is)

